import PyProof.Rows.All
import HandS.Head0
import HandS.Head1
import HandS.Head2
import HandS.HeadEnd
import HandS.HeadHook1
import HandS.HeadHook2
import HandS.HeadWalk
import HandS.Words
import HandS.Exc
import HandS.ExcField
import PySem.Challenge.RW_swaprest_k55_sums_told_by_least
import HandS.ForMost
import HandS.ForExc
import HandS.IsInst
import HandS.Flow
import HandS.Wide
import HandS.Deep
import HandS.TupAny
import HandS.TupMul
import HandS.CallSlots
import KE.DataCmp
import KE.KDictKeyed
import HandS.NoneIn
import HandS.Zip
import HandS.More
import HandS.HeadHook4
import HandS.ExcIs
import HandS.ExcValue
import HandS.Iter
import HandS.TupLen
import HandS.SortKw
import KE.SortKeyHeap
import KE.KDictCopyH
import KE.KDictSum
import HandS.Keys
import KE.DataMinMax
import KE.SortData
import KE.KDictPairs
import KE.KRevSl
import PyProof.ExcBaseAll.ValueError
import HandS.ExcInit
import KE.KExcIs
import KE.KDictDisplayH
import KE.GoesEnum
import KE.KEqDict
import HandS.ListEq
import KE.KMinKey
set_option Elab.async false
set_option linter.all false
set_option maxRecDepth 100000
/-! SW0: the program's top by one run of the kernel; the facts that a law's walk leans on, read by a hook. -/
namespace SW
open PySem PySem.Spec PyProof.Rows L2
def vBase : List Value := [.type "ValueError", .type "Exception", .type "BaseException", .type "object"]
/-! the module's facts that a division of great ints leans on -/
def strKeysB (es : Array DictEntry) : Bool := es.toList.all fun e => match e.key with
  | .str _ _ => true
  | _ => false
def noneAt (es : Array DictEntry) (x : Str) : Bool := (nsFind es x).isNone
def seerB (K : PySem.W.Frag) : Bool :=
  (match K.lookup cStatics with
  | some ⟨_, _, .dict es _, _⟩ => strKeysB es && (noneAt es "sys.audit-hooks" && noneAt es "sys.dict")
  | _ => false) &&
  ((match K.lookup sysModules with
  | some ⟨_, _, .dict es _, _⟩ => strKeysB es && noneAt es "_pylong"
  | _ => false) &&
  (match PySem.W.nsIn K mainGlobals "__builtins__" with
  | some (some (.ref bm)) => (match K.lookup bm with
    | some ⟨.type x, some d, _, _⟩ => (x == "module") && (d == builtinsNs)
    | _ => false)
  | _ => false))
abbrev AlS : Type := Bool × List He.FnV
def obsS (fk : PySem.W.Frag → Bool) (fn : List He.FnD) (K : PySem.W.Frag) : AlS := (fk K && fn.all fun d => (He.Fa.code d.at_ d.qual).ok K, fn.map fun d => He.fnObs K d.at_)
def valS (fn : List He.FnD) : AlS := (true, fn.map He.FnD.val)
def SaysS (fk : PySem.W.Frag → Bool) (fn : List He.FnD) (K : PySem.W.Frag) : Prop := obsS fk fn K = valS fn
def obsSG (n : Nat) (fk : PySem.W.Frag → Bool) (fn : List He.FnD) (g : Addr → Option Obj) : AlS := obsS fk fn (He.frG g (cStatics :: sysModules :: He.asG g n))
def hookS (n : Nat) (fk : PySem.W.Frag → Bool) (fn : List He.FnD) : PySem.W.Hook where
  α := AlS
  obs := fun s => obsSG n fk fn s.heap.get?
  val := fun _ => valS fn
  says := fun _ h => ∃ K : PySem.W.Frag, K.In h ∧ SaysS fk fn K
  of := fun _ _ e => ⟨_, He.frG_in, e⟩
  keeps := fun _ _ _ ⟨K, hK, c⟩ k => ⟨K, PySem.W.Frag.In.keeps hK k, c⟩
theorem obsSG_eq {n : Nat} {fk : PySem.W.Frag → Bool} {fn : List He.FnD} {g : Addr → Option Obj} {s : Shared} (h : ∀ a, g a = s.heap.get? a) : obsSG n fk fn g = (hookS n fk fn).obs s := by
  have e : g = s.heap.get? := funext h
  rw [e] <;> rfl
section
variable {fk : PySem.W.Frag → Bool} {fn : List He.FnD} {K : PySem.W.Frag} {h : Heap} {mg : Str → Option Value}
theorem SaysS.fkt (c : SaysS fk fn K) : fk K = true :=
  (He.ba (show (fk K && fn.all fun d => (He.Fa.code d.at_ d.qual).ok K) = true from congrArg (fun z : AlS => z.1) c)).1
theorem SaysS.def_ (c : SaysS fk fn K) (i : Nat) {d : He.FnD} (h : fn[i]? = some d := by rfl) :
    ∃ oc od osl kV doc pm an cdv ct, K.lookup (He.fAd K d.at_) = some ⟨oc, od, .func (PySem.W.fnOf d.name d.qual d.params d.body d.scope .none kV doc pm an cdv ct), osl⟩ ∧ PySem.W.codeIn K cdv d.qual = true := by
  have c2 := (He.ba (show (fk K && fn.all fun d => (He.Fa.code d.at_ d.qual).ok K) = true from congrArg (fun z : AlS => z.1) c)).2
  have e : fn.map (fun d => He.fnObs K d.at_) = fn.map He.FnD.val := congrArg (fun z : AlS => z.2) c
  have e2 : (fn.map fun d => He.fnObs K d.at_)[i]? = (fn.map He.FnD.val)[i]? := by rw [e]
  rw [List.getElem?_map, List.getElem?_map, h] at e2
  exact He.fn_ok (Option.some.inj e2) (List.all_eq_true.mp c2 d (List.mem_of_getElem? h))
end
/-! the run's equation in parts: each a run of its own, the facts shared out -/
section
open HandSHeadRun PySem.W
end
end SW

set_option maxRecDepth 100000
set_option maxHeartbeats 0
namespace Lw
open PySem PySem.Spec PyProof.Rows L2 SW
def topS (i : Nat) : Stmt := PySem.Challenge.pw_swaprest_k55_sums_told_by_least.main.body.getD i (.Pass ⟨0, 0, 0, 0⟩)
abbrev s__law_mixed : Stmt := topS 41
abbrev s__law_purse : Stmt := topS 42
abbrev s__law_take : Stmt := topS 43
abbrev s__law_low : Stmt := topS 45
abbrev s__law_few : Stmt := topS 55
abbrev s_is_whole : Stmt := topS 9
abbrev s_is_word : Stmt := topS 18
abbrev s_check_word : Stmt := topS 33
abbrev s_is_least : Stmt := topS 32
abbrev s_falling : Stmt := topS 34
abbrev s_fallen : Stmt := topS 35
abbrev s__law_word : Stmt := topS 50
abbrev s__law_rows_drawn : Stmt := topS 66
abbrev s__law_rank : Stmt := topS 52
abbrev s__law_told : Stmt := topS 53
abbrev s_check_count : Stmt := topS 27
abbrev s_divisor : Stmt := topS 10
abbrev s_is_number : Stmt := topS 12
abbrev s_is_term : Stmt := topS 19
abbrev s_rank : Stmt := topS 20
abbrev s_check_sum : Stmt := topS 21
abbrev s_gathered : Stmt := topS 22
abbrev s_lowest : Stmt := topS 11
abbrev s_plus : Stmt := topS 13
abbrev s_put_to : Stmt := topS 24
abbrev s_times : Stmt := topS 15
abbrev s_joined_to : Stmt := topS 28
abbrev s_told_sum : Stmt := topS 23
abbrev s_contrary : Stmt := topS 14
abbrev s_said_by : Stmt := topS 30
abbrev s_tree_by : Stmt := topS 36
abbrev s_joined_trees : Stmt := topS 38
abbrev s_told_by_least : Stmt := topS 39
abbrev s__law_at : Stmt := topS 44
abbrev s__law_number : Stmt := topS 49
abbrev s__law_sum : Stmt := topS 51
abbrev s__law_plus : Stmt := topS 46
abbrev s__law_put : Stmt := topS 54
abbrev s__law_by : Stmt := topS 47
abbrev s__law_joined : Stmt := topS 56
abbrev s__law_not : Stmt := topS 48
abbrev s__law_less : Stmt := topS 57
abbrev s__law_said : Stmt := topS 58
abbrev s_least_tree : Stmt := topS 37
abbrev s__law_row_sum : Stmt := topS 61
abbrev s__law_all : Stmt := topS 62
abbrev s__law_whole_word : Stmt := topS 64
abbrev s__law_is_least : Stmt := topS 60
abbrev s__law_is_row : Stmt := topS 63
abbrev s__law_form_right : Stmt := topS 65
abbrev s__law_whole_rank : Stmt := topS 67
abbrev s_law : Stmt := topS 68
def D__law_mixed : He.FnD := ⟨("_law_mixed", none), "_law_mixed", "_law_mixed", defArgs s__law_mixed, defBody s__law_mixed, defScope s__law_mixed⟩
def D__law_purse : He.FnD := ⟨("_law_purse", none), "_law_purse", "_law_purse", defArgs s__law_purse, defBody s__law_purse, defScope s__law_purse⟩
def D__law_take : He.FnD := ⟨("_law_take", none), "_law_take", "_law_take", defArgs s__law_take, defBody s__law_take, defScope s__law_take⟩
def D__law_low : He.FnD := ⟨("_law_low", none), "_law_low", "_law_low", defArgs s__law_low, defBody s__law_low, defScope s__law_low⟩
def D__law_few : He.FnD := ⟨("_law_few", none), "_law_few", "_law_few", defArgs s__law_few, defBody s__law_few, defScope s__law_few⟩
def D_is_whole : He.FnD := ⟨("is_whole", none), "is_whole", "is_whole", defArgs s_is_whole, defBody s_is_whole, defScope s_is_whole⟩
def D_is_word : He.FnD := ⟨("is_word", none), "is_word", "is_word", defArgs s_is_word, defBody s_is_word, defScope s_is_word⟩
def D_check_word : He.FnD := ⟨("check_word", none), "check_word", "check_word", defArgs s_check_word, defBody s_check_word, defScope s_check_word⟩
def D_is_least : He.FnD := ⟨("is_least", none), "is_least", "is_least", defArgs s_is_least, defBody s_is_least, defScope s_is_least⟩
def D_falling : He.FnD := ⟨("falling", none), "falling", "falling", defArgs s_falling, defBody s_falling, defScope s_falling⟩
def D_fallen : He.FnD := ⟨("fallen", none), "fallen", "fallen", defArgs s_fallen, defBody s_fallen, defScope s_fallen⟩
def D__law_word : He.FnD := ⟨("_law_word", none), "_law_word", "_law_word", defArgs s__law_word, defBody s__law_word, defScope s__law_word⟩
def D__law_rows_drawn : He.FnD := ⟨("_law_rows_drawn", none), "_law_rows_drawn", "_law_rows_drawn", defArgs s__law_rows_drawn, defBody s__law_rows_drawn, defScope s__law_rows_drawn⟩
def D__law_rank : He.FnD := ⟨("_law_rank", none), "_law_rank", "_law_rank", defArgs s__law_rank, defBody s__law_rank, defScope s__law_rank⟩
def D__law_told : He.FnD := ⟨("_law_told", none), "_law_told", "_law_told", defArgs s__law_told, defBody s__law_told, defScope s__law_told⟩
def D_check_count : He.FnD := ⟨("check_count", none), "check_count", "check_count", defArgs s_check_count, defBody s_check_count, defScope s_check_count⟩
def D_divisor : He.FnD := ⟨("divisor", none), "divisor", "divisor", defArgs s_divisor, defBody s_divisor, defScope s_divisor⟩
def D_is_number : He.FnD := ⟨("is_number", none), "is_number", "is_number", defArgs s_is_number, defBody s_is_number, defScope s_is_number⟩
def D_is_term : He.FnD := ⟨("is_term", none), "is_term", "is_term", defArgs s_is_term, defBody s_is_term, defScope s_is_term⟩
def D_rank : He.FnD := ⟨("rank", none), "rank", "rank", defArgs s_rank, defBody s_rank, defScope s_rank⟩
def D_check_sum : He.FnD := ⟨("check_sum", none), "check_sum", "check_sum", defArgs s_check_sum, defBody s_check_sum, defScope s_check_sum⟩
def D_gathered : He.FnD := ⟨("gathered", none), "gathered", "gathered", defArgs s_gathered, defBody s_gathered, defScope s_gathered⟩
def D_lowest : He.FnD := ⟨("lowest", none), "lowest", "lowest", defArgs s_lowest, defBody s_lowest, defScope s_lowest⟩
def D_plus : He.FnD := ⟨("plus", none), "plus", "plus", defArgs s_plus, defBody s_plus, defScope s_plus⟩
def D_put_to : He.FnD := ⟨("put_to", none), "put_to", "put_to", defArgs s_put_to, defBody s_put_to, defScope s_put_to⟩
def D_times : He.FnD := ⟨("times", none), "times", "times", defArgs s_times, defBody s_times, defScope s_times⟩
def D_joined_to : He.FnD := ⟨("joined_to", none), "joined_to", "joined_to", defArgs s_joined_to, defBody s_joined_to, defScope s_joined_to⟩
def D_told_sum : He.FnD := ⟨("told_sum", none), "told_sum", "told_sum", defArgs s_told_sum, defBody s_told_sum, defScope s_told_sum⟩
def D_contrary : He.FnD := ⟨("contrary", none), "contrary", "contrary", defArgs s_contrary, defBody s_contrary, defScope s_contrary⟩
def D_said_by : He.FnD := ⟨("said_by", none), "said_by", "said_by", defArgs s_said_by, defBody s_said_by, defScope s_said_by⟩
def D_tree_by : He.FnD := ⟨("tree_by", none), "tree_by", "tree_by", defArgs s_tree_by, defBody s_tree_by, defScope s_tree_by⟩
def D_joined_trees : He.FnD := ⟨("joined_trees", none), "joined_trees", "joined_trees", defArgs s_joined_trees, defBody s_joined_trees, defScope s_joined_trees⟩
def D_told_by_least : He.FnD := ⟨("told_by_least", none), "told_by_least", "told_by_least", defArgs s_told_by_least, defBody s_told_by_least, defScope s_told_by_least⟩
def D__law_at : He.FnD := ⟨("_law_at", none), "_law_at", "_law_at", defArgs s__law_at, defBody s__law_at, defScope s__law_at⟩
def D__law_number : He.FnD := ⟨("_law_number", none), "_law_number", "_law_number", defArgs s__law_number, defBody s__law_number, defScope s__law_number⟩
def D__law_sum : He.FnD := ⟨("_law_sum", none), "_law_sum", "_law_sum", defArgs s__law_sum, defBody s__law_sum, defScope s__law_sum⟩
def D__law_plus : He.FnD := ⟨("_law_plus", none), "_law_plus", "_law_plus", defArgs s__law_plus, defBody s__law_plus, defScope s__law_plus⟩
def D__law_put : He.FnD := ⟨("_law_put", none), "_law_put", "_law_put", defArgs s__law_put, defBody s__law_put, defScope s__law_put⟩
def D__law_by : He.FnD := ⟨("_law_by", none), "_law_by", "_law_by", defArgs s__law_by, defBody s__law_by, defScope s__law_by⟩
def D__law_joined : He.FnD := ⟨("_law_joined", none), "_law_joined", "_law_joined", defArgs s__law_joined, defBody s__law_joined, defScope s__law_joined⟩
def D__law_not : He.FnD := ⟨("_law_not", none), "_law_not", "_law_not", defArgs s__law_not, defBody s__law_not, defScope s__law_not⟩
def D__law_less : He.FnD := ⟨("_law_less", none), "_law_less", "_law_less", defArgs s__law_less, defBody s__law_less, defScope s__law_less⟩
def D__law_said : He.FnD := ⟨("_law_said", none), "_law_said", "_law_said", defArgs s__law_said, defBody s__law_said, defScope s__law_said⟩
def D_least_tree : He.FnD := ⟨("least_tree", none), "least_tree", "least_tree", defArgs s_least_tree, defBody s_least_tree, defScope s_least_tree⟩
def D__law_row_sum : He.FnD := ⟨("_law_row_sum", none), "_law_row_sum", "_law_row_sum", defArgs s__law_row_sum, defBody s__law_row_sum, defScope s__law_row_sum⟩
def D__law_all : He.FnD := ⟨("_law_all", none), "_law_all", "_law_all", defArgs s__law_all, defBody s__law_all, defScope s__law_all⟩
def D__law_whole_word : He.FnD := ⟨("_law_whole_word", none), "_law_whole_word", "_law_whole_word", defArgs s__law_whole_word, defBody s__law_whole_word, defScope s__law_whole_word⟩
def D__law_is_least : He.FnD := ⟨("_law_is_least", none), "_law_is_least", "_law_is_least", defArgs s__law_is_least, defBody s__law_is_least, defScope s__law_is_least⟩
def D__law_is_row : He.FnD := ⟨("_law_is_row", none), "_law_is_row", "_law_is_row", defArgs s__law_is_row, defBody s__law_is_row, defScope s__law_is_row⟩
def D__law_form_right : He.FnD := ⟨("_law_form_right", none), "_law_form_right", "_law_form_right", defArgs s__law_form_right, defBody s__law_form_right, defScope s__law_form_right⟩
def D__law_whole_rank : He.FnD := ⟨("_law_whole_rank", none), "_law_whole_rank", "_law_whole_rank", defArgs s__law_whole_rank, defBody s__law_whole_rank, defScope s__law_whole_rank⟩
def D_law : He.FnD := ⟨("law", none), "law", "law", defArgs s_law, defBody s_law, defScope s_law⟩
def fns : List He.FnD := [D__law_mixed, D__law_purse, D__law_take, D__law_low, D__law_few, D_is_whole, D_is_word, D_check_word, D_is_least, D_falling, D_fallen, D__law_word, D__law_rows_drawn, D__law_rank, D__law_told, D_check_count, D_divisor, D_is_number, D_is_term, D_rank, D_check_sum, D_gathered, D_lowest, D_plus, D_put_to, D_times, D_joined_to, D_told_sum, D_contrary, D_said_by, D_tree_by, D_joined_trees, D_told_by_least, D__law_at, D__law_number, D__law_sum, D__law_plus, D__law_put, D__law_by, D__law_joined, D__law_not, D__law_less, D__law_said, D_least_tree, D__law_row_sum, D__law_all, D__law_whole_word, D__law_is_least, D__law_is_row, D__law_form_right, D__law_whole_rank, D_law]
abbrev P0 (K : PySem.W.Frag) : Prop := (seerB K = true) ∧
    (PySem.W.nsIn K mainGlobals "_law_mixed" = some (some (.ref (He.ga K "_law_mixed")))) ∧
    (PySem.W.keepIn K (.ref (He.ga K "_law_mixed")) = true) ∧
    (PySem.W.nsIn K mainGlobals "_law_purse" = some (some (.ref (He.ga K "_law_purse")))) ∧
    (PySem.W.keepIn K (.ref (He.ga K "_law_purse")) = true) ∧
    (PySem.W.nsIn K mainGlobals "_law_take" = some (some (.ref (He.ga K "_law_take")))) ∧
    (PySem.W.keepIn K (.ref (He.ga K "_law_take")) = true) ∧
    (PySem.W.nsIn K mainGlobals "_law_low" = some (some (.ref (He.ga K "_law_low")))) ∧
    (PySem.W.keepIn K (.ref (He.ga K "_law_low")) = true) ∧
    (PySem.W.nsIn K mainGlobals "_law_few" = some (some (.ref (He.ga K "_law_few")))) ∧
    (PySem.W.keepIn K (.ref (He.ga K "_law_few")) = true) ∧
    (PySem.W.nsIn K mainGlobals "is_whole" = some (some (.ref (He.ga K "is_whole")))) ∧
    (PySem.W.keepIn K (.ref (He.ga K "is_whole")) = true) ∧
    (PySem.W.nsIn K mainGlobals "is_word" = some (some (.ref (He.ga K "is_word")))) ∧
    (PySem.W.keepIn K (.ref (He.ga K "is_word")) = true) ∧
    (PySem.W.nsIn K mainGlobals "check_word" = some (some (.ref (He.ga K "check_word")))) ∧
    (PySem.W.keepIn K (.ref (He.ga K "check_word")) = true) ∧
    (PySem.W.nsIn K mainGlobals "is_least" = some (some (.ref (He.ga K "is_least")))) ∧
    (PySem.W.keepIn K (.ref (He.ga K "is_least")) = true) ∧
    (PySem.W.nsIn K mainGlobals "falling" = some (some (.ref (He.ga K "falling")))) ∧
    (PySem.W.keepIn K (.ref (He.ga K "falling")) = true) ∧
    (PySem.W.nsIn K mainGlobals "fallen" = some (some (.ref (He.ga K "fallen")))) ∧
    (PySem.W.keepIn K (.ref (He.ga K "fallen")) = true) ∧
    (PySem.W.nsIn K mainGlobals "_law_word" = some (some (.ref (He.ga K "_law_word")))) ∧
    (PySem.W.keepIn K (.ref (He.ga K "_law_word")) = true) ∧ True
def fk0 (K : PySem.W.Frag) : Bool := decide (P0 K)
abbrev P1 (K : PySem.W.Frag) : Prop := (PySem.W.nsIn K mainGlobals "_law_rows_drawn" = some (some (.ref (He.ga K "_law_rows_drawn")))) ∧
    (PySem.W.keepIn K (.ref (He.ga K "_law_rows_drawn")) = true) ∧
    (PySem.W.nsIn K mainGlobals "_law_rank" = some (some (.ref (He.ga K "_law_rank")))) ∧
    (PySem.W.keepIn K (.ref (He.ga K "_law_rank")) = true) ∧
    (PySem.W.nsIn K mainGlobals "_law_told" = some (some (.ref (He.ga K "_law_told")))) ∧
    (PySem.W.keepIn K (.ref (He.ga K "_law_told")) = true) ∧
    (PySem.W.nsIn K mainGlobals "check_count" = some (some (.ref (He.ga K "check_count")))) ∧
    (PySem.W.keepIn K (.ref (He.ga K "check_count")) = true) ∧
    (PySem.W.nsIn K mainGlobals "divisor" = some (some (.ref (He.ga K "divisor")))) ∧
    (PySem.W.keepIn K (.ref (He.ga K "divisor")) = true) ∧
    (PySem.W.nsIn K mainGlobals "is_number" = some (some (.ref (He.ga K "is_number")))) ∧
    (PySem.W.keepIn K (.ref (He.ga K "is_number")) = true) ∧
    (PySem.W.nsIn K mainGlobals "is_term" = some (some (.ref (He.ga K "is_term")))) ∧
    (PySem.W.keepIn K (.ref (He.ga K "is_term")) = true) ∧
    (PySem.W.nsIn K mainGlobals "rank" = some (some (.ref (He.ga K "rank")))) ∧
    (PySem.W.keepIn K (.ref (He.ga K "rank")) = true) ∧
    (PySem.W.nsIn K mainGlobals "check_sum" = some (some (.ref (He.ga K "check_sum")))) ∧
    (PySem.W.keepIn K (.ref (He.ga K "check_sum")) = true) ∧
    (PySem.W.nsIn K mainGlobals "gathered" = some (some (.ref (He.ga K "gathered")))) ∧
    (PySem.W.keepIn K (.ref (He.ga K "gathered")) = true) ∧
    (PySem.W.nsIn K mainGlobals "lowest" = some (some (.ref (He.ga K "lowest")))) ∧
    (PySem.W.keepIn K (.ref (He.ga K "lowest")) = true) ∧
    (PySem.W.nsIn K mainGlobals "plus" = some (some (.ref (He.ga K "plus")))) ∧
    (PySem.W.keepIn K (.ref (He.ga K "plus")) = true) ∧
    (PySem.W.nsIn K mainGlobals "put_to" = some (some (.ref (He.ga K "put_to")))) ∧ True
def fk1 (K : PySem.W.Frag) : Bool := decide (P1 K)
abbrev P2 (K : PySem.W.Frag) : Prop := (PySem.W.keepIn K (.ref (He.ga K "put_to")) = true) ∧
    (PySem.W.nsIn K mainGlobals "times" = some (some (.ref (He.ga K "times")))) ∧
    (PySem.W.keepIn K (.ref (He.ga K "times")) = true) ∧
    (PySem.W.nsIn K mainGlobals "joined_to" = some (some (.ref (He.ga K "joined_to")))) ∧
    (PySem.W.keepIn K (.ref (He.ga K "joined_to")) = true) ∧
    (PySem.W.nsIn K mainGlobals "told_sum" = some (some (.ref (He.ga K "told_sum")))) ∧
    (PySem.W.keepIn K (.ref (He.ga K "told_sum")) = true) ∧
    (PySem.W.nsIn K mainGlobals "contrary" = some (some (.ref (He.ga K "contrary")))) ∧
    (PySem.W.keepIn K (.ref (He.ga K "contrary")) = true) ∧
    (PySem.W.nsIn K mainGlobals "said_by" = some (some (.ref (He.ga K "said_by")))) ∧
    (PySem.W.keepIn K (.ref (He.ga K "said_by")) = true) ∧
    (PySem.W.nsIn K mainGlobals "tree_by" = some (some (.ref (He.ga K "tree_by")))) ∧
    (PySem.W.keepIn K (.ref (He.ga K "tree_by")) = true) ∧
    (PySem.W.nsIn K mainGlobals "joined_trees" = some (some (.ref (He.ga K "joined_trees")))) ∧
    (PySem.W.keepIn K (.ref (He.ga K "joined_trees")) = true) ∧
    (PySem.W.nsIn K mainGlobals "told_by_least" = some (some (.ref (He.ga K "told_by_least")))) ∧
    (PySem.W.keepIn K (.ref (He.ga K "told_by_least")) = true) ∧
    (PySem.W.nsIn K mainGlobals "_law_at" = some (some (.ref (He.ga K "_law_at")))) ∧
    (PySem.W.keepIn K (.ref (He.ga K "_law_at")) = true) ∧
    (PySem.W.nsIn K mainGlobals "_law_number" = some (some (.ref (He.ga K "_law_number")))) ∧
    (PySem.W.keepIn K (.ref (He.ga K "_law_number")) = true) ∧
    (PySem.W.nsIn K mainGlobals "_law_sum" = some (some (.ref (He.ga K "_law_sum")))) ∧
    (PySem.W.keepIn K (.ref (He.ga K "_law_sum")) = true) ∧
    (PySem.W.nsIn K mainGlobals "_law_plus" = some (some (.ref (He.ga K "_law_plus")))) ∧
    (PySem.W.keepIn K (.ref (He.ga K "_law_plus")) = true) ∧ True
def fk2 (K : PySem.W.Frag) : Bool := decide (P2 K)
abbrev P3 (K : PySem.W.Frag) : Prop := (PySem.W.nsIn K mainGlobals "_law_put" = some (some (.ref (He.ga K "_law_put")))) ∧
    (PySem.W.keepIn K (.ref (He.ga K "_law_put")) = true) ∧
    (PySem.W.nsIn K mainGlobals "_law_by" = some (some (.ref (He.ga K "_law_by")))) ∧
    (PySem.W.keepIn K (.ref (He.ga K "_law_by")) = true) ∧
    (PySem.W.nsIn K mainGlobals "_law_joined" = some (some (.ref (He.ga K "_law_joined")))) ∧
    (PySem.W.keepIn K (.ref (He.ga K "_law_joined")) = true) ∧
    (PySem.W.nsIn K mainGlobals "_law_not" = some (some (.ref (He.ga K "_law_not")))) ∧
    (PySem.W.keepIn K (.ref (He.ga K "_law_not")) = true) ∧
    (PySem.W.nsIn K mainGlobals "_law_less" = some (some (.ref (He.ga K "_law_less")))) ∧
    (PySem.W.keepIn K (.ref (He.ga K "_law_less")) = true) ∧
    (PySem.W.nsIn K mainGlobals "_law_said" = some (some (.ref (He.ga K "_law_said")))) ∧
    (PySem.W.keepIn K (.ref (He.ga K "_law_said")) = true) ∧
    (PySem.W.nsIn K mainGlobals "least_tree" = some (some (.ref (He.ga K "least_tree")))) ∧
    (PySem.W.keepIn K (.ref (He.ga K "least_tree")) = true) ∧
    (PySem.W.nsIn K mainGlobals "_law_row_sum" = some (some (.ref (He.ga K "_law_row_sum")))) ∧
    (PySem.W.keepIn K (.ref (He.ga K "_law_row_sum")) = true) ∧
    (PySem.W.nsIn K mainGlobals "_law_all" = some (some (.ref (He.ga K "_law_all")))) ∧
    (PySem.W.keepIn K (.ref (He.ga K "_law_all")) = true) ∧
    (PySem.W.nsIn K mainGlobals "_law_whole_word" = some (some (.ref (He.ga K "_law_whole_word")))) ∧
    (PySem.W.keepIn K (.ref (He.ga K "_law_whole_word")) = true) ∧
    (PySem.W.nsIn K mainGlobals "_law_is_least" = some (some (.ref (He.ga K "_law_is_least")))) ∧
    (PySem.W.keepIn K (.ref (He.ga K "_law_is_least")) = true) ∧
    (PySem.W.nsIn K mainGlobals "_law_is_row" = some (some (.ref (He.ga K "_law_is_row")))) ∧
    (PySem.W.keepIn K (.ref (He.ga K "_law_is_row")) = true) ∧
    (PySem.W.nsIn K mainGlobals "_law_form_right" = some (some (.ref (He.ga K "_law_form_right")))) ∧ True
def fk3 (K : PySem.W.Frag) : Bool := decide (P3 K)
abbrev P4 (K : PySem.W.Frag) : Prop := (PySem.W.keepIn K (.ref (He.ga K "_law_form_right")) = true) ∧
    (PySem.W.nsIn K mainGlobals "_law_whole_rank" = some (some (.ref (He.ga K "_law_whole_rank")))) ∧
    (PySem.W.keepIn K (.ref (He.ga K "_law_whole_rank")) = true) ∧
    (PySem.W.nsIn K mainGlobals "law" = some (some (.ref (He.ga K "law")))) ∧
    (PySem.W.keepIn K (.ref (He.ga K "law")) = true) ∧
    (PySem.W.nsIn K mainGlobals "abs" = some none) ∧
    (PySem.W.nsIn K mainGlobals "bool" = some none) ∧
    (PySem.W.nsIn K mainGlobals "dict" = some none) ∧
    (PySem.W.nsIn K mainGlobals "enumerate" = some none) ∧
    (PySem.W.nsIn K mainGlobals "int" = some none) ∧
    (PySem.W.nsIn K mainGlobals "isinstance" = some none) ∧
    (PySem.W.nsIn K mainGlobals "len" = some none) ∧
    (PySem.W.nsIn K mainGlobals "list" = some none) ∧
    (PySem.W.nsIn K mainGlobals "max" = some none) ∧
    (PySem.W.nsIn K mainGlobals "min" = some none) ∧
    (PySem.W.nsIn K mainGlobals "range" = some none) ∧
    (PySem.W.nsIn K mainGlobals "sorted" = some none) ∧
    (PySem.W.nsIn K mainGlobals "tuple" = some none) ∧
    ((He.Fa.int "MOST" 5).ok K = true) ∧
    ((He.Fa.int "MOST_LETTERS" 4).ok K = true) ∧
    (PySem.W.nsIn K mainGlobals "NOUGHT" = some (some (.ref (He.ga K "NOUGHT")))) ∧
    (He.tupB K "NOUGHT" [.int 0, .int 1] = true) ∧
    (PySem.W.nsIn K mainGlobals "ONE" = some (some (.ref (He.ga K "ONE")))) ∧
    (He.tupB K "ONE" [.int 1, .int 1] = true) ∧ True
def fk4 (K : PySem.W.Frag) : Bool := decide (P4 K)
def fk (K : PySem.W.Frag) : Bool := fk0 K && (fk1 K && (fk2 K && (fk3 K && (fk4 K))))
abbrev hk : PySem.W.Hook := hookS 5 fk fns
def ob (s : PySem.W.SharedT) : AlS := obsSG 5 fk fns (HandSHeadRun.getT s)
theorem ob_eq (s : PySem.W.SharedT) : ob s = hk.obs s.abs := obsSG_eq (HandSHeadRun.getT_eq s)
def nm0 : List Str := ["SwapError", "NoCount", "NoWord", "NoLeast", "NoSum", "NOUGHT", "ONE", "is_whole", "divisor", "lowest", "is_number", "plus", "contrary", "times", "MOST", "is_word", "is_term", "rank", "check_sum", "gathered", "told_sum", "put_to", "MOST_LETTERS", "check_count", "joined_to", "said_by", "is_least", "check_word", "falling", "fallen"]
def nm1 : List Str := ["tree_by", "least_tree", "joined_trees", "told_by_least", "_law_mixed", "_law_purse", "_law_take", "_law_at", "_law_low", "_law_plus", "_law_by", "_law_not", "_law_number", "_law_word", "_law_sum", "_law_rank", "_law_told", "_law_put", "_law_few", "_law_joined", "_law_less", "_law_said", "_law_tree", "_law_is_least", "_law_row_sum", "_law_all", "_law_is_row", "_law_whole_word", "_law_form_right", "_law_rows_drawn"]
def nm2 : List Str := ["_law_whole_rank"]
def nms : List Str := nm0 ++ (nm1 ++ (nm2))
theorem run (w : World) : HandSHeadRun.RunEq (PySem.W.OpenLaw.row PySem.Challenge.rw_swaprest_k55_sums_told_by_least) (PySem.W.view (PySem.W.OpenLaw.row PySem.Challenge.rw_swaprest_k55_sums_told_by_least).prog [68]) hk ob 20000 nms w := by
  intro os
  kernel_rfl
end Lw

set_option maxRecDepth 100000
/-! SW1: data without a heap (D), how a heap bears them (At), owned cells (OwnAt), a frame's slots (Rel), steps (Stp). -/
namespace SW
open PySem PySem.Spec PyProof.Rows L2

/-- the built-in classes that are named -/
inductive Tc where
  | int | bool | tuple | list | str | dict
def Tc.nm : Tc → String
  | .int => "int"
  | .bool => "bool"
  | .tuple => "tuple"
  | .list => "list"
  | .str => "str"
  | .dict => "dict"
/-- a datum -/
inductive D where
  | non | bl (b : Bool) | int (i : Int) | str (x : Str)
  | tup (xs : List D) | lst (xs : List D)
  | dct (kvs : List (NestedKey × D))
  /-- an instance of a class of the program, its attributes; an exception of a class, with its one field or none -/
  | ins (c : Str) (fs : List (Str × D))
  | exc (c : Str) (fs : List (Str × D))
  | scr (ns : List Int)
  | ty (n : Tc)

/-- an exception of the class cls, caught once, at a -/
def ExT (cls : Value) (d : Option Addr) (a : Addr) : HO := .ext fun h => ∃ (oe : Obj) (vs : Array Value), h.get? a = some oe ∧ Zc cls d oe ∧ oe.data = .fields vs
/-- a dict's object and what its entries are: the key, its tuple, the value -/
structure DX where
  o : Obj
  xs : List (NestedKey × Addr × V)
def DT (a : Addr) (x : DX) : HO := .ext fun h => h.get? a = some x.o
mutual
/-- a key as a datum -/
def keyB : NestedKey → D
  | .none => .non
  | .num i => .int i
  | .text x => .str x
  | .tup ks => .tup (keyBs ks)
def keyBs : List NestedKey → List D
  | [] => []
  | k :: ks => keyB k :: keyBs ks
end
mutual
/-- a datum as a key (no texts) -/
def keyD : D → Option NestedKey
  | .non => some .none
  | .int i => some (.num i)
  | .tup ds => match keyDs ds with
    | some ks => some (.tup ks)
    | none => none
  | .bl _ => none
  | .str _ => none
  | .lst _ => none
  | .dct _ => none
  | .ins _ _ => none
  | .exc _ _ => none
  | .scr _ => none
  | .ty _ => none
def keyDs : List D → Option (List NestedKey)
  | [] => some []
  | d :: ds => match keyD d, keyDs ds with
    | some k, some ks => some (k :: ks)
    | _, _ => none
end
/-- a tuple that is a key -/
def keyT (d : D) : Option NestedKey := match d with
  | .tup ds => match keyD (.tup ds) with
    | some k => if k.depth ≤ 8 then some k else none
    | none => none
  | _ => none
def DX.vs (x : DX) : List V := (x.xs.map fun p => V.ref p.2.1) ++ x.xs.map fun p => p.2.2
def dvs (ds : List (NestedKey × D)) : List D := (ds.map fun p => keyB p.1) ++ ds.map fun p => p.2
abbrev EnL : List DictEntry → List (NestedKey × Addr × V) → Prop := Paired fun en x => (∀ w, en.hash = NestedKey.hash w x.1) ∧ en.key = .ref x.2.1 ∧ RelV x.2.2 en.val
/-- the object x.o, at a, is a dict of the entries x.xs, whose keys are those of ds -/
structure DTok (a : Addr) (x : DX) (ds : List (NestedKey × D)) : Prop where
  sys : (a == sysModules) = false
  ex : x.o.ExactDict
  keys : x.xs.map (·.1) = ds.map (·.1)
  nodup : (x.xs.map (·.1)).Nodup
  kk : ∀ p ∈ x.xs, keyT (keyB p.1) = some p.1
  ens : ∃ es ep, x.o.data = .dict es ep ∧ EnL es.toList x.xs

mutual
inductive At (K : PySem.W.Frag) (S : Hp) : V → D → Prop
  | non : At K S .non .non
  | bl (b : Bool) : At K S (.bl b) (.bl b)
  | int (i : Int) : At K S (.int i) (.int i)
  | str (x : Str) : At K S (.str x) (.str x)
  | tup {a : Addr} {vs : List V} {ds : List D} : SqT K S a vs → ds.length ≤ sizeLine → AtL K S vs ds → At K S (.ref a) (.tup ds)
  | lst {a : Addr} {vs : List V} {ds : List D} : S a = some (.lst vs) → ds.length ≤ sizeLine → AtL K S vs ds → At K S (.ref a) (.lst ds)
  | dct {a : Addr} {x : DX} {ds : List (NestedKey × D)} : S a = some (DT a x) → DTok a x ds → ds.length ≤ sizeLine → AtL K S x.vs (dvs ds) → At K S (.ref a) (.dct ds)
  | ins {a C dx : Addr} {c : Str} {fv : List (Str × V)} {fs : List (Str × D)} : S a = some (.ins C dx fv) → PySem.W.nsIn K mainGlobals c = some (some (.ref C)) → S dx = some (.own a) → fv.map (·.1) = fs.map (·.1) → AtL K S (fv.map (·.2)) (fs.map (·.2)) → At K S (.ref a) (.ins c fs)
  | exc0 {a C : Addr} {c : Str} : S a = some (ExT (.ref C) none a) → PySem.W.nsIn K mainGlobals c = some (some (.ref C)) → At K S (.ref a) (.exc c [])
  | exc1 {a C d : Addr} {c f : Str} {v : V} {x : D} : S a = some (ExT (.ref C) (some d) a) → PySem.W.nsIn K mainGlobals c = some (some (.ref C)) → S d = some (.xd [(f, v)]) → At K S v x → At K S (.ref a) (.exc c [(f, x)])
  | scr {a : Addr} {ns : List Int} : SqL K S a (ns.map V.int) → ns.length ≤ sizeLine → At K S (.ref a) (.scr ns)
  | ty {x : String} (n : Tc) : x = n.nm → At K S (.ty x) (.ty n)
inductive AtL (K : PySem.W.Frag) (S : Hp) : List V → List D → Prop
  | nil : AtL K S [] []
  | cons {v : V} {vs : List V} {d : D} {ds : List D} : At K S v d → AtL K S vs ds → AtL K S (v :: vs) (d :: ds)
end

theorem sqT_mono {K : PySem.W.Frag} {H H' : Hp} {a : Addr} {xs : List V} (e : Same H H') (h : SqT K H a xs) : SqT K H' a xs := by
  rcases h with (h | ⟨o, h⟩) | h
  · exact .inl (.inl (e _ _ h))
  · exact .inl (.inr ⟨o, e _ _ h⟩)
  · exact .inr h

mutual
theorem At.mono {K : PySem.W.Frag} {S S' : Hp} (e : Same S S') : ∀ {v : V} {d : D}, At K S v d → At K S' v d
  | _, _, .non => .non
  | _, _, .bl b => .bl b
  | _, _, .int i => .int i
  | _, _, .str x => .str x
  | _, _, .tup h z r => .tup (sqT_mono e h) z (AtL.mono e r)
  | _, _, .lst h z r => .lst (e _ _ h) z (AtL.mono e r)
  | _, _, .dct h k z r => .dct (e _ _ h) k z (AtL.mono e r)
  | _, _, .ins h c k q r => .ins (e _ _ h) c (e _ _ k) q (AtL.mono e r)
  | _, _, .exc0 h c => .exc0 (e _ _ h) c
  | _, _, .exc1 h c d r => .exc1 (e _ _ h) c (e _ _ d) (At.mono e r)
  | _, _, .scr h z => .scr (e.seq h) z
  | _, _, .ty n h => .ty n h
theorem AtL.mono {K : PySem.W.Frag} {S S' : Hp} (e : Same S S') : ∀ {vs : List V} {ds : List D}, AtL K S vs ds → AtL K S' vs ds
  | _, _, .nil => .nil
  | _, _, .cons h r => .cons (At.mono e h) (AtL.mono e r)
end
section
variable {K : PySem.W.Frag} {S S' H H' : Hp}
theorem AtL.length : ∀ {vs : List V} {ds : List D}, AtL K S vs ds → vs.length = ds.length
  | _, _, .nil => rfl
  | _, _, .cons _ r => by rw [List.length_cons, List.length_cons, AtL.length r]
theorem AtL.get : ∀ {vs : List V} {ds : List D} {i : Nat} {d : D}, AtL K S vs ds → ds[i]? = some d → ∃ v, vs[i]? = some v ∧ At K S v d
  | _, _, _, _, .nil, e => by simp at e
  | _, _, 0, _, .cons h _, e => by simp at e; subst e; exact ⟨_, rfl, h⟩
  | _, _, i + 1, _, .cons _ r, e => by
    obtain ⟨v, h1, h2⟩ := AtL.get (i := i) r (by simpa using e)
    exact ⟨v, by simpa using h1, h2⟩
theorem AtL.getV : ∀ {vs : List V} {ds : List D} {i : Nat} {v : V}, AtL K S vs ds → vs[i]? = some v → ∃ d, ds[i]? = some d ∧ At K S v d
  | _, _, _, _, .nil, e => by simp at e
  | _, _, 0, _, .cons h _, e => by simp at e; subst e; exact ⟨_, rfl, h⟩
  | _, _, i + 1, _, .cons _ r, e => by
    obtain ⟨v, h1, h2⟩ := AtL.getV (i := i) r (by simpa using e)
    exact ⟨v, by simpa using h1, h2⟩
theorem AtL.append : ∀ {vs ws : List V} {ds es : List D}, AtL K S vs ds → AtL K S ws es → AtL K S (vs ++ ws) (ds ++ es)
  | _, _, _, _, .nil, r => r
  | _, _, _, _, .cons h t, r => .cons h (AtL.append t r)
theorem AtL.take : ∀ {vs : List V} {ds : List D} (n : Nat), AtL K S vs ds → AtL K S (vs.take n) (ds.take n)
  | _, _, 0, _ => .nil
  | _, _, _ + 1, .nil => .nil
  | _, _, n + 1, .cons h t => .cons h (AtL.take n t)
theorem AtL.drop : ∀ {vs : List V} {ds : List D} (n : Nat), AtL K S vs ds → AtL K S (vs.drop n) (ds.drop n)
  | _, _, 0, r => r
  | _, _, _ + 1, .nil => .nil
  | _, _, n + 1, .cons _ t => AtL.drop n t
theorem AtL.set : ∀ {vs : List V} {ds : List D} {v : V} {d : D} (i : Nat), AtL K S vs ds → At K S v d → AtL K S (vs.set i v) (ds.set i d)
  | _, _, _, _, _, .nil, _ => .nil
  | _, _, _, _, 0, .cons _ t, h => .cons h t
  | _, _, _, _, i + 1, .cons q t, h => .cons q (AtL.set i t h)
theorem AtL.ints : ∀ ns : List Int, AtL K S (ns.map V.int) (ns.map D.int)
  | [] => .nil
  | n :: ns => .cons (.int n) (AtL.ints ns)

/-! ### owned cells -/
/-- what a cell that one name alone holds is: a list, a dict, an instance; what is in it stands -/
inductive Body (K : PySem.W.Frag) (S : Hp) (a : Addr) : HO → D → Prop
  | lst {vs : List V} {ds : List D} (z : ds.length ≤ sizeLine) (r : AtL K S vs ds) : Body K S a (.lst vs) (.lst ds)
  | dct {x : DX} {ds : List (NestedKey × D)} (k : DTok a x ds) (z : ds.length ≤ sizeLine) (r : AtL K S x.vs (dvs ds)) : Body K S a (DT a x) (.dct ds)
  | ins {C dx : Addr} {c : Str} {fv : List (Str × V)} {fs : List (Str × D)} (hc : PySem.W.nsIn K mainGlobals c = some (some (.ref C))) (hd : S dx = some (.own a)) (q : fv.map (·.1) = fs.map (·.1)) (r : AtL K S (fv.map (·.2)) (fs.map (·.2))) : Body K S a (.ins C dx fv) (.ins c fs)
theorem Body.mono {a : Addr} {o : HO} {d : D} (e : Same S S') : Body K S a o d → Body K S' a o d
  | .lst z r => .lst z (r.mono e)
  | .dct k z r => .dct k z (r.mono e)
  | .ins c k q r => .ins c (e _ _ k) q (r.mono e)
theorem Body.at {a : Addr} {o : HO} {d : D} (h : S a = some o) : Body K S a o d → At K S (.ref a) d
  | .lst z r => .lst h z r
  | .dct k z r => .dct h k z r
  | .ins c k q r => .ins h c k q r
def OwnAt (K : PySem.W.Frag) (S H : Hp) (v : V) (d : D) : Prop :=
  ∃ a, v = .ref a ∧ S a = none ∧ ∃ o, H a = some o ∧ Body K S a o d
theorem OwnAt.mkL {a : Addr} {vs : List V} {ds : List D} (n : S a = none) (h : H a = some (.lst vs)) (z : ds.length ≤ sizeLine) (r : AtL K S vs ds) : OwnAt K S H (.ref a) (.lst ds) := ⟨a, rfl, n, _, h, .lst z r⟩

def SlotAt (K : PySem.W.Frag) (S H : Hp) : Bool → Option V → Option D → Prop
  | _, none, none => True
  | false, some v, some d => At K S v d
  | true, some v, some d => OwnAt K S H v d
  | _, _, _ => False

abbrev Rho := List (Option D)
abbrev Os := List Bool
abbrev Sg := L2.St

/-- the addresses that the owning slots hold -/
def Own (os : Os) (σ : Sg) (a : Addr) : Prop := ∃ i, os.getD i false = true ∧ σ[i]? = some (some (.ref a))

structure Rel (K : PySem.W.Frag) (S H : Hp) (os : Os) (σ : Sg) (ρ : Rho) : Prop where
  sub : Same S H
  len : σ.length = ρ.length
  slot : ∀ i x d, σ[i]? = some x → ρ[i]? = some d → SlotAt K S H (os.getD i false) x d
  sep : ∀ i j a, os.getD i false = true → os.getD j false = true → σ[i]? = some (some (.ref a)) → σ[j]? = some (some (.ref a)) → i = j

/-- O: what may be turned; all else that doesn't stand is left alone -/
structure Ext (O : Addr → Prop) (S H S' H' : Hp) : Prop where
  s : Same S S'
  sh : Same S' H'
  fr : ∀ a o, H a = some o → S a = none → ¬ O a → H' a = some o ∧ S' a = none
  there : ∀ a, H' a = none → H a = none

structure Stp (os : Os) (σ : Sg) (S H : Hp) (os' : Os) (σ' : Sg) (S' H' : Hp) : Prop where
  ext : Ext (Own os σ) S H S' H'
  own : ∀ a, Own os' σ' a → Own os σ a ∨ H a = none

theorem Ext.refl {O : Addr → Prop} (h : Same S H) : Ext O S H S H := ⟨Same.refl _, h, fun _ _ e n _ => ⟨e, n⟩, fun _ e => e⟩
theorem Ext.trans {O O1 : Addr → Prop} {S1 H1 S2 H2 : Hp} (a : Ext O S H S1 H1) (b : Ext O1 S1 H1 S2 H2) (ho : ∀ c, O1 c → O c ∨ H c = none) : Ext O S H S2 H2 where
  s := a.s.trans b.s
  sh := b.sh
  fr := fun c o e n no => by
    obtain ⟨e1, n1⟩ := a.fr c o e n no
    refine b.fr c o e1 n1 fun q => ?_
    rcases ho c q with q | q
    · exact no q
    · rw [e] at q; cases q
  there := fun c e => a.there c (b.there c e)
theorem Ext.weak {O O' : Addr → Prop} {S1 H1 : Hp} (a : Ext O S H S1 H1) (h : ∀ c, O c → O' c) : Ext O' S H S1 H1 :=
  ⟨a.s, a.sh, fun c o e n no => a.fr c o e n fun q => no (h c q), a.there⟩
theorem Stp.refl {os : Os} {σ : Sg} (h : Same S H) : Stp os σ S H os σ S H := ⟨Ext.refl h, fun _ q => .inl q⟩
theorem Stp.trans {os os1 os2 : Os} {σ σ1 σ2 : Sg} {S1 H1 S2 H2 : Hp} (a : Stp os σ S H os1 σ1 S1 H1) (b : Stp os1 σ1 S1 H1 os2 σ2 S2 H2) : Stp os σ S H os2 σ2 S2 H2 where
  ext := a.ext.trans b.ext a.own
  own := fun c q => by
    rcases b.own c q with q | q
    · exact a.own c q
    · exact .inr (a.ext.there c q)

/-- a new cell is laid and stands -/
theorem Ext.new {O : Addr → Prop} {p : Addr} {o : HO} (h : Same S H) (n : H p = none) : Ext O S H (upd S p o) (upd H p o) where
  s := fun b x e => by rw [upd_ne (ne_of_none (h b x e) n)]; exact e
  sh := fun b x e => by
    by_cases hb : b = p
    · subst hb; rw [upd_same] at e ⊢; exact e
    · rw [upd_ne hb] at e ⊢; exact h b x e
  fr := fun b x e nb _ => by
    have hb : b ≠ p := ne_of_none e n
    rw [upd_ne hb, upd_ne hb]; exact ⟨e, nb⟩
  there := fun b e => by
    by_cases hb : b = p
    · subst hb; rw [upd_same] at e; cases e
    · rw [upd_ne hb] at e; exact e
/-- a new cell is laid; it is owned -/
theorem Ext.newO {O : Addr → Prop} {p : Addr} {o : HO} (h : Same S H) (n : H p = none) : Ext O S H S (upd H p o) where
  s := Same.refl _
  sh := fun b x e => by rw [upd_ne (ne_of_none (h b x e) n)]; exact h b x e
  fr := fun b x e nb _ => by rw [upd_ne (ne_of_none e n)]; exact ⟨e, nb⟩
  there := fun b e => by
    by_cases hb : b = p
    · subst hb; rw [upd_same] at e; cases e
    · rw [upd_ne hb] at e; exact e
/-- an owned cell is turned -/
theorem Ext.turn {O : Addr → Prop} {p : Addr} {o : HO} (h : Same S H) (n : S p = none) (ho : O p) : Ext O S H S (upd H p o) where
  s := Same.refl _
  sh := fun b x e => by
    have hb : b ≠ p := fun z => by rw [z, n] at e; cases e
    rw [upd_ne hb]; exact h b x e
  fr := fun b x e nb no => by
    have hb : b ≠ p := fun z => no (by rw [z]; exact ho)
    rw [upd_ne hb]; exact ⟨e, nb⟩
  there := fun b e => by
    by_cases hb : b = p
    · subst hb; rw [upd_same] at e; cases e
    · rw [upd_ne hb] at e; exact e

theorem OwnAt.ext {O : Addr → Prop} {v : V} {d : D} (q : OwnAt K S H v d) (x : Ext O S H S' H') (h : ∀ a, v = .ref a → ¬ O a) : OwnAt K S' H' v d := by
  obtain ⟨a, e, n, q⟩ := q
  have no := h a e
  obtain ⟨o, eh, b⟩ := q
  obtain ⟨e1, n1⟩ := x.fr a _ eh n no
  exact ⟨a, e, n1, o, e1, b.mono x.s⟩
theorem OwnAt.some_ {v : V} {d : D} (q : OwnAt K S H v d) : ∃ a o, v = .ref a ∧ S a = none ∧ H a = some o := by
  obtain ⟨a, e, n, q⟩ := q
  obtain ⟨o, eh, b⟩ := q
  exact ⟨a, o, e, n, eh⟩

section
variable {os os' : Os} {σ σ' : Sg} {ρ ρ' : Rho} {i : Nat}
/-- nothing that the slots own is touched -/
theorem Rel.grow {O : Addr → Prop} (r : Rel K S H os σ ρ) (x : Ext O S H S' H') (h : ∀ a, Own os σ a → ¬ O a) : Rel K S' H' os σ ρ where
  sub := x.sh
  len := r.len
  slot := fun i v d e1 e2 => by
    have q := r.slot i v d e1 e2
    cases ho : os.getD i false <;> rw [ho] at q <;> cases v <;> cases d <;> simp only [SlotAt] at q ⊢
    · exact q.mono x.s
    · refine q.ext x fun a ea => h a ⟨i, ho, ?_⟩
      rw [e1, ea]
  sep := r.sep
theorem Rel.new {p : Addr} {o : HO} (r : Rel K S H os σ ρ) (n : H p = none) : Rel K (upd S p o) (upd H p o) os σ ρ := r.grow (Ext.new (O := fun _ => False) r.sub n) fun _ _ z => z
theorem Rel.newO {p : Addr} {o : HO} (r : Rel K S H os σ ρ) (n : H p = none) : Rel K S (upd H p o) os σ ρ := r.grow (Ext.newO (O := fun _ => False) r.sub n) fun _ _ z => z
/-- a slot is read -/
theorem Rel.val (r : Rel K S H os σ ρ) {d : D} (h : ρ[i]? = some (some d)) (ho : os.getD i false = false) : ∃ v, σ[i]? = some (some v) ∧ At K S v d := by
  have hl : i < σ.length := by rw [r.len]; exact (List.getElem?_eq_some_iff.mp h).1
  have q := r.slot i _ _ (List.getElem?_eq_getElem hl) h
  rw [ho] at q
  cases e : σ[i] with
  | none => rw [e] at q; exact q.elim
  | some v => rw [e] at q; exact ⟨v, by rw [List.getElem?_eq_getElem hl, e], q⟩
theorem Rel.own (r : Rel K S H os σ ρ) {d : D} (h : ρ[i]? = some (some d)) (ho : os.getD i false = true) : ∃ v, σ[i]? = some (some v) ∧ OwnAt K S H v d := by
  have hl : i < σ.length := by rw [r.len]; exact (List.getElem?_eq_some_iff.mp h).1
  have q := r.slot i _ _ (List.getElem?_eq_getElem hl) h
  rw [ho] at q
  cases e : σ[i] with
  | none => rw [e] at q; exact q.elim
  | some v => rw [e] at q; exact ⟨v, by rw [List.getElem?_eq_getElem hl, e], q⟩
/-- an owned slot's cell holds what is known -/
theorem Rel.owned (r : Rel K S H os σ ρ) {a : Addr} (h : Own os σ a) : S a = none ∧ ∃ o, H a = some o := by
  obtain ⟨i, ho, e⟩ := h
  have hl : i < ρ.length := by rw [← r.len]; exact (List.getElem?_eq_some_iff.mp e).1
  have q := r.slot i _ _ e (List.getElem?_eq_getElem hl)
  rw [ho] at q
  cases ed : ρ[i] with
  | none => rw [ed] at q; exact q.elim
  | some d =>
    rw [ed] at q
    obtain ⟨b, o, e1, n, e2⟩ := OwnAt.some_ (show OwnAt K S H (.ref a) d from q)
    cases e1
    exact ⟨n, o, e2⟩

/-! ### freezing -/
/-- all cells of the slots that are freed stand from now on -/
theorem getD_set_self {os : Os} {i : Nat} : (os.set i false).getD i false = false := by
  by_cases h : i < os.length
  · simp [List.getD, h]
  · rw [List.getD, List.getElem?_eq_none (by rw [List.length_set]; omega)]; rfl
theorem getD_set_ne {os : Os} {i j : Nat} {b : Bool} (h : i ≠ j) : (os.set i b).getD j false = os.getD j false := by
  simp [List.getD, List.getElem?_set_ne h]
theorem freeze1 (r : Rel K S H os σ ρ) (i : Nat) : ∃ S', Same S S' ∧ Rel K S' H (os.set i false) σ ρ ∧ Stp os σ S H (os.set i false) σ S' H ∧ ∀ v d, os.getD i false = true → σ[i]? = some (some v) → ρ[i]? = some (some d) → At K S' v d := by
  have hle : ∀ j, (os.set i false).getD j false = true → os.getD j false = true ∧ j ≠ i := fun j h => by
    by_cases e : i = j
    · subst e; rw [getD_set_self] at h; cases h
    · rw [getD_set_ne e] at h; exact ⟨h, fun z => e z.symm⟩
  have hown : ∀ a, Own (os.set i false) σ a → Own os σ a := fun a ⟨j, h, e⟩ => ⟨j, (hle j h).1, e⟩
  by_cases ho : os.getD i false = true
  · -- is the slot filled?
    by_cases hf : ∃ v d, σ[i]? = some (some v) ∧ ρ[i]? = some (some d)
    · obtain ⟨v, d, ev, ed⟩ := hf
      have q0 : OwnAt K S H v d := by
        have q := r.slot i _ _ ev ed
        rw [ho] at q
        exact q
      obtain ⟨a, e, n, qq⟩ := q0
      subst e
      -- the cell's object
      have key : ∀ o, H a = some o → At K (upd S a o) (.ref a) d → ∃ S', Same S S' ∧ Rel K S' H (os.set i false) σ ρ ∧ Stp os σ S H (os.set i false) σ S' H ∧ ∀ v d, os.getD i false = true → σ[i]? = some (some v) → ρ[i]? = some (some d) → At K S' v d := fun o eh hat => by
        have sm : Same S (upd S a o) := fun b x e => by
          have hb : b ≠ a := fun z => by rw [z, n] at e; cases e
          rw [upd_ne hb]; exact e
        have sh : Same (upd S a o) H := fun b x e => by
          by_cases hb : b = a
          · subst hb; rw [upd_same] at e; rw [eh]; exact e
          · rw [upd_ne hb] at e; exact r.sub b x e
        have ext : Ext (Own os σ) S H (upd S a o) H := ⟨sm, sh, fun b x e nb no => by
          have hb : b ≠ a := fun z => no (by rw [z]; exact ⟨i, ho, ev⟩)
          rw [upd_ne hb]; exact ⟨e, nb⟩, fun _ e => e⟩
        refine ⟨upd S a o, sm, ⟨sh, r.len, fun j x y e1 e2 => ?_, fun j k b h1 h2 e1 e2 => r.sep j k b (hle j h1).1 (hle k h2).1 e1 e2⟩, ⟨ext, fun b q => .inl (hown b q)⟩, fun v' d' _ e1 e2 => ?_⟩
        · by_cases hj : i = j
          · subst hj
            rw [ev] at e1; rw [ed] at e2; cases e1; cases e2
            rw [getD_set_self]; exact hat
          · rw [getD_set_ne hj]
            have q := r.slot j x y e1 e2
            cases hoj : os.getD j false <;> rw [hoj] at q <;> cases x <;> cases y <;> simp only [SlotAt] at q ⊢
            · exact q.mono sm
            · rename_i w z
              obtain ⟨b, eb, nb, q⟩ := q
              have hb : b ≠ a := fun z => hj (r.sep i j a ho hoj ev (by rw [e1, eb, z]))
              refine ⟨b, eb, by rw [upd_ne hb]; exact nb, ?_⟩
              obtain ⟨o', eh', bd⟩ := q
              exact ⟨o', eh', bd.mono sm⟩
        · rw [ev] at e1; rw [ed] at e2; cases e1; cases e2; exact hat
      obtain ⟨o, eh, bd⟩ := qq
      exact key _ eh ((bd.mono fun b x e => by
          have hb : b ≠ a := fun z => by rw [z, n] at e; cases e
          rw [upd_ne hb]; exact e).at upd_same)
    · refine ⟨S, Same.refl _, ⟨r.sub, r.len, fun j x y e1 e2 => ?_, fun j k b h1 h2 e1 e2 => r.sep j k b (hle j h1).1 (hle k h2).1 e1 e2⟩, ⟨Ext.refl r.sub, fun b q => .inl (hown b q)⟩, fun v' d' _ e1 e2 => (hf ⟨_, _, e1, e2⟩).elim⟩
      by_cases hj : i = j
      · subst hj
        rw [getD_set_self]
        have q := r.slot i x y e1 e2
        rw [ho] at q
        cases x <;> cases y <;> simp only [SlotAt] at q ⊢
        exact (hf ⟨_, _, e1, e2⟩).elim
      · rw [getD_set_ne hj]; exact r.slot j x y e1 e2
  · have hof : os.getD i false = false := by cases h : os.getD i false <;> simp_all
    have hsame : ∀ j, (os.set i false).getD j false = os.getD j false := fun j => by
      by_cases e : i = j
      · subst e; rw [getD_set_self, hof]
      · exact getD_set_ne e
    exact ⟨S, Same.refl _, ⟨r.sub, r.len, fun j x y e1 e2 => by rw [hsame]; exact r.slot j x y e1 e2, fun j k b h1 h2 => r.sep j k b (by rw [← hsame]; exact h1) (by rw [← hsame]; exact h2)⟩, ⟨Ext.refl r.sub, fun b q => .inl (hown b q)⟩, fun v d h => absurd h (by rw [hof]; decide)⟩
end
end
end SW

set_option maxRecDepth 100000
/-! SW2: outcomes, posts, judgements by data (VE, VT, VA, VG, VI, VS), the rules of names, constants, operators, displays, calls. -/
namespace SW
open PySem PySem.Spec PyProof.Rows L2

inductive Out (α : Type) where
  | ok (a : α) | exc (c : Str) (fs : Option (Str × D)) | stuck
def Out.bind {α β : Type} : Out α → (α → Out β) → Out β
  | .ok a, k => k a
  | .exc c fs, _ => .exc c fs
  | .stuck, _ => .stuck
def Out.of {α : Type} : Option α → Out α
  | some a => .ok a
  | none => .stuck

/-- an exception of the class that stands by the name c, with its one field or none -/
def ExcAt (K : PySem.W.Frag) (mg : Str → Option Value) (S : Hp) (c : Str) (fs : Option (Str × D)) (cls : Value) (dd : Option Addr) : Prop :=
  mg c = some cls ∧ match fs with
    | none => dd = none
    | some (f, d) => ∃ a v, dd = some a ∧ S a = some (.xd [(f, v)]) ∧ At K S v d

abbrev RR (α β : Type) := Hp → Hp → Hp → β → α → Prop
/-- what is known of a new value v that is d -/
def RV (K : PySem.W.Frag) (r : Bool) : RR D V := fun H S' H' v d => if r = true then OwnAt K S' H' v d ∧ ∀ a, v = .ref a → H a = none else At K S' v d
def RB : RR Bool Bool := fun _ _ _ b c => b = c
def RL (K : PySem.W.Frag) (n : Nat) : RR (List D) (List V) := fun _ S' _ vs ds => AtL K S' vs ds ∧ ds.length = n
def RR.Ok {α β : Type} (R : RR α β) : Prop := ∀ H H1 S' H' b d, (∀ a, H1 a = none → H a = none) → R H1 S' H' b d → R H S' H' b d
theorem RV.ok {K : PySem.W.Frag} {r : Bool} : (RV K r).Ok := fun H H1 S' H' b d h q => by
  cases r
  · exact q
  · exact ⟨q.1, fun a e => h a (q.2 a e)⟩
theorem RB.ok : RB.Ok := fun _ _ _ _ _ _ _ q => q
theorem RL.ok {K : PySem.W.Frag} {n : Nat} : (RL K n).Ok := fun _ _ _ _ _ _ _ q => q

/-- what is wanted behind an outcome -/
def Post {α β : Type} (X : Cx) (W : WX) (S H : Hp) (os : Os) (σ : Sg) (os' : Os) (R : RR α β) (Q : β → Hp → Prop) : Out (α × Rho) → Prop
  | .ok (d, ρ') => ∀ b S' H', Stp os σ S H os' σ S' H' → Rel X.K S' H' os' σ ρ' → R H S' H' b d → Q b H'
  | .exc c fs => ∀ S' H' cls dd, Ext (Own os σ) S H S' H' → ExcAt X.K X.mg S' c fs cls dd → W cls dd σ H'
  | .stuck => False

section
variable {X : Cx} {W : WX} {α β γ : Type} {S H S1 H1 : Hp} {os os1 os2 : Os} {σ : Sg} {R : RR α β} {Q : β → Hp → Prop}
theorem Post.step (hR : R.Ok) {x : Out (α × Rho)} (p : Post X W S H os σ os2 R Q x) (s : Stp os σ S H os1 σ S1 H1) : Post X W S1 H1 os1 σ os2 R Q x := by
  cases x with
  | ok z => exact fun b S' H' s' r q => p b S' H' (s.trans s') r (hR _ _ _ _ _ _ s.ext.there q)
  | exc c fs => exact fun S' H' cls dd e q => p S' H' cls dd (s.ext.trans e s.own) q
  | stuck => exact p
theorem Post.seq {F : Out γ → Prop} {x : Out (α × Rho)} {k : α × Rho → Out γ} (P : F (x.bind k)) (hs : ¬ F .stuck)
    (he : ∀ c fs, F (.exc c fs) → ∀ S' H' cls dd, Ext (Own os σ) S H S' H' → ExcAt X.K X.mg S' c fs cls dd → W cls dd σ H')
    (h : ∀ d ρ1 b S1 H1, Stp os σ S H os1 σ S1 H1 → Rel X.K S1 H1 os1 σ ρ1 → R H S1 H1 b d → F (k (d, ρ1)) → Q b H1) : Post X W S H os σ os1 R Q x := by
  cases x with
  | ok z => exact fun b S' H' s' r q => h z.1 z.2 b S' H' s' r q P
  | exc c fs => exact he c fs P
  | stuck => exact hs P
/-- the end of a chain -/
theorem Post.fin {os' : Os} {d : α} {ρ1 : Rho} {b : β} (P : Post X W S1 H1 os1 σ os1 R Q (.ok (d, ρ1))) (rel : Rel X.K S1 H1 os1 σ ρ1) (q : R H1 S1 H1 b d) : Q b H1 :=
  P b S1 H1 (Stp.refl rel.sub) rel q
end

/-! ### the judgements -/
def VE (X : Cx) (W : WX) (os : Os) (e : Expr) (f : Rho → Out (D × Rho)) (os' : Os) (r : Bool) : Prop :=
  ∃ t, PE X e t ∧ ∀ S σ H ρ Q, Rel X.K S H os σ ρ → Post X W S H os σ os' (RV X.K r) Q (f ρ) → t σ H Q
def VT (X : Cx) (W : WX) (os : Os) (e : Expr) (f : Rho → Out (Bool × Rho)) (os' : Os) : Prop :=
  ∃ t, PT X e t ∧ ∀ S σ H ρ Q, Rel X.K S H os σ ρ → Post X W S H os σ os' RB Q (f ρ) → t σ H Q
def VW (X : Cx) (W : WX) (os : Os) (e : Expr) (f : Rho → Out (Bool × Rho)) (os' : Os) : Prop :=
  ∃ t, PW X e t ∧ ∀ S σ H ρ Q, Rel X.K S H os σ ρ → Post X W S H os σ os' RB Q (f ρ) → t σ H Q
def VA (X : Cx) (W : WX) (os : Os) (es : List Expr) (f : Rho → Out (List D × Rho)) (os' : Os) : Prop :=
  ∃ t, PA X es t ∧ ∀ S σ H ρ Q, Rel X.K S H os σ ρ → Post X W S H os σ os' (RL X.K es.length) Q (f ρ) → t σ H Q

/-! ### their plain functions -/
def eVar (i : Nat) : Rho → Out (D × Rho) := fun ρ => match ρ.getD i none with
  | some d => .ok (d, ρ)
  | none => .stuck
def eCon (d : D) : Rho → Out (D × Rho) := fun ρ => .ok (d, ρ)
def eOp2 (g : D → D → Option D) (f1 f2 : Rho → Out (D × Rho)) : Rho → Out (D × Rho) := fun ρ =>
  (f1 ρ).bind fun p => (f2 p.2).bind fun q => (Out.of (g p.1 q.1)).bind fun c => .ok (c, q.2)
def eOp1 (g : D → Option D) (f1 : Rho → Out (D × Rho)) : Rho → Out (D × Rho) := fun ρ =>
  (f1 ρ).bind fun p => (Out.of (g p.1)).bind fun c => .ok (c, p.2)
def aNil : Rho → Out (List D × Rho) := fun ρ => .ok ([], ρ)
def aCons (f : Rho → Out (D × Rho)) (g : Rho → Out (List D × Rho)) : Rho → Out (List D × Rho) := fun ρ =>
  (f ρ).bind fun p => (g p.2).bind fun q => .ok (p.1 :: q.1, q.2)
def eTup (g : Rho → Out (List D × Rho)) : Rho → Out (D × Rho) := fun ρ => (g ρ).bind fun p => .ok (.tup p.1, p.2)
def eLst (g : Rho → Out (List D × Rho)) : Rho → Out (D × Rho) := fun ρ => (g ρ).bind fun p => .ok (.lst p.1, p.2)
/-- a built-in that gives a value of its arguments alone -/
def eArg (h : List D → Option D) (g : Rho → Out (List D × Rho)) : Rho → Out (D × Rho) := fun ρ =>
  (g ρ).bind fun p => (Out.of (h p.1)).bind fun c => .ok (c, p.2)
def eIf (c : Rho → Out (Bool × Rho)) (f g : Rho → Out (D × Rho)) : Rho → Out (D × Rho) := fun ρ => (c ρ).bind fun p => if p.1 = true then f p.2 else g p.2
def tVal (f : Rho → Out (D × Rho)) : Rho → Out (Bool × Rho) := fun ρ => (f ρ).bind fun p => match p.1 with
  | .bl b => .ok (b, p.2)
  | _ => .stuck
def tNotF (f : Rho → Out (Bool × Rho)) : Rho → Out (Bool × Rho) := fun ρ => (f ρ).bind fun p => .ok (!p.1, p.2)
def tAndF (f g : Rho → Out (Bool × Rho)) : Rho → Out (Bool × Rho) := fun ρ => (f ρ).bind fun p => if p.1 = true then g p.2 else .ok (false, p.2)
def tOrF (f g : Rho → Out (Bool × Rho)) : Rho → Out (Bool × Rho) := fun ρ => (f ρ).bind fun p => if p.1 = true then .ok (true, p.2) else g p.2
def eB (f : Rho → Out (Bool × Rho)) : Rho → Out (D × Rho) := fun ρ => (f ρ).bind fun p => .ok (.bl p.1, p.2)

/-! ### rules -/
theorem getD_le {fx os : Os} (h : (List.range fx.length).all (fun i => !fx.getD i false || os.getD i false) = true) {i : Nat} (hf : fx.getD i false = true) : os.getD i false = true := by
  have hi : i < fx.length := by
    rcases Nat.lt_or_ge i fx.length with h1 | h1
    · exact h1
    · rw [List.getD, List.getElem?_eq_none h1] at hf; cases hf
  have q := List.all_eq_true.mp h i (List.mem_range.mpr hi)
  rw [hf] at q
  simpa using q
/-- the slots of the first own by the second -/
abbrev Le (fx os : Os) : Prop := (List.range fx.length).all (fun i => !fx.getD i false || os.getD i false) = true
section
variable {X : Cx} {W : WX} {os os1 os2 os3 : Os} {e e1 e2 : Expr} {f f1 f2 : Rho → Out (D × Rho)} {pos : Pos} {r r1 r2 : Bool}

theorem ve_var (i : Nat) {x : Str} (hN : X.N[i]? = some x := by rfl) (hv : Vis X.env.scope x := by first | exact Or.inl rfl | exact Or.inr (Or.inl rfl) | exact Or.inr (Or.inr rfl)) (ho : os.getD i false = false := by rfl)
    (hd : (x == ("__debug__" : Str)) = false := by decide) (hcd : (x == ("__classdict__" : Str)) = false := by decide) : VE X W os (.Name x pos) (eVar i) os false := by
  refine ⟨_, pe_var hN hv hd hcd, fun S σ H ρ Q rel P => ?_⟩
  unfold eVar at P
  cases h : ρ.getD i none with
  | none => rw [h] at P; exact P.elim
  | some d =>
    rw [h] at P
    have e : ρ[i]? = some (some d) := by
      cases q : ρ[i]? with
      | none => simp [List.getD, q] at h
      | some y => simp [List.getD, q] at h; rw [h]
    obtain ⟨v, ev, hat⟩ := rel.val e ho
    exact ⟨v, ev, P.fin (os' := os) rel hat⟩
/-- an owning name is read as a value: it stands from now on -/
theorem ve_varF (i : Nat) {x : Str} (hN : X.N[i]? = some x := by rfl) (hv : Vis X.env.scope x := by first | exact Or.inl rfl | exact Or.inr (Or.inl rfl) | exact Or.inr (Or.inr rfl)) (ho : os.getD i false = true := by rfl)
    (hd : (x == ("__debug__" : Str)) = false := by decide) (hcd : (x == ("__classdict__" : Str)) = false := by decide) : VE X W os (.Name x pos) (eVar i) (os.set i false) false := by
  refine ⟨_, pe_var hN hv hd hcd, fun S σ H ρ Q rel P => ?_⟩
  unfold eVar at P
  cases h : ρ.getD i none with
  | none => rw [h] at P; exact P.elim
  | some d =>
    rw [h] at P
    have e : ρ[i]? = some (some d) := by
      cases q : ρ[i]? with
      | none => simp [List.getD, q] at h
      | some y => simp [List.getD, q] at h; rw [h]
    obtain ⟨v, ev, _⟩ := rel.own e ho
    obtain ⟨S', _, rel', st, k⟩ := freeze1 rel i
    exact ⟨v, ev, P v S' H st rel' (k v d ho ev e)⟩
theorem ve_int {i j} : VE X W os (.Constant (.int i) j pos) (eCon (.int i)) os false := ⟨_, pe_int, fun S σ H ρ Q rel P => P.fin (os' := os) rel (.int i)⟩
theorem ve_bl {b j} : VE X W os (.Constant (.bool b) j pos) (eCon (.bl b)) os false := ⟨_, pe_bl, fun S σ H ρ Q rel P => P.fin (os' := os) rel (.bl b)⟩
/-- a module's constant -/
theorem ve_glob {x : Str} {v : V} {u : Value} {d : D} (hm : X.mg x = some u) (hr : RelV v u) (hat : ∀ S, At X.K S v d) (hg : Gl X x := by rfl) (hd : (x == ("__debug__" : Str)) = false := by decide) : VE X W os (.Name x pos) (eCon d) os false :=
  ⟨_, pe_glob hg hm hr hd, fun S σ H ρ Q rel P => P.fin (os' := os) rel (hat _)⟩

/-- an operator on two values, by data -/
def Op2 (X : Cx) (f : Value → Value → Sem Value) (g : D → D → Option D) : Prop :=
  ∃ r, OpR X f r ∧ ∀ S H x y a b c Q, Same S H → At X.K S x a → At X.K S y b → g a b = some c → (∀ v S' H', Ext (fun _ => False) S H S' H' → At X.K S' v c → Q v H') → r x y H Q
def Op1 (X : Cx) (f : Value → Sem Value) (g : D → Option D) : Prop :=
  ∃ r, UnR X f r ∧ ∀ S H x a c Q, Same S H → At X.K S x a → g a = some c → (∀ v S' H', Ext (fun _ => False) S H S' H' → At X.K S' v c → Q v H') → r x H Q

theorem Stp.of_ext {os : Os} {σ : Sg} {S H S' H' : Hp} (x : Ext (fun _ => False) S H S' H') : Stp os σ S H os σ S' H' := ⟨x.weak fun _ z => z.elim, fun _ q => .inl q⟩
theorem Rel.ext0 {K : PySem.W.Frag} {os : Os} {σ : Sg} {ρ : Rho} {S H S' H' : Hp} (r : Rel K S H os σ ρ) (x : Ext (fun _ => False) S H S' H') : Rel K S' H' os σ ρ := r.grow x fun _ _ z => z

theorem post_of {g : Option D} {S H : Hp} {os : Os} {σ : Sg} {ρ : Rho} {Q : VK} (P : Post X W S H os σ os (RV X.K false) Q ((Out.of g).bind fun c => .ok (c, ρ))) (rel : Rel X.K S H os σ ρ) :
    ∃ c, g = some c ∧ ∀ v S' H', Ext (fun _ => False) S H S' H' → At X.K S' v c → Q v H' := by
  cases g with
  | none => exact P.elim
  | some c => exact ⟨c, rfl, fun v S' H' x hat => P v S' H' (Stp.of_ext x) (rel.ext0 x) hat⟩

theorem ve_bin {op : Operator} {g : D → D → Option D} (ho : Op2 X (binaryOp op) g) (ha : VE X W os e1 f1 os1 false) (hb : VE X W os1 e2 f2 os2 false) : VE X W os (.BinOp e1 op e2 pos) (eOp2 g f1 f2) os2 false := by
  obtain ⟨ta, pa, ka⟩ := ha
  obtain ⟨tb, pb, kb⟩ := hb
  obtain ⟨rr, po, ko⟩ := ho
  refine ⟨_, pe_op po pa pb, fun S σ H ρ Q rel P => ?_⟩
  refine ka S σ H ρ _ rel (Post.seq P (fun z => z) (fun c fs p => p) fun d ρ1 v S1 H1 st1 rel1 q1 P1 => ?_)
  have P1 := P1.step RV.ok st1
  refine kb S1 σ H1 ρ1 _ rel1 (Post.seq P1 (fun z => z) (fun c fs p => p) fun d2 ρ2 v2 S2 H2 st2 rel2 q2 P2 => ?_)
  obtain ⟨c, hc, k⟩ := post_of (P2.step RV.ok st2) rel2
  exact ko S2 H2 v v2 d d2 c _ rel2.sub (At.mono st2.ext.s q1) q2 hc k
theorem ve_un {op : UnaryOp} {g : D → Option D} (ho : Op1 X (unaryOp op) g) (ha : VE X W os e1 f1 os1 false) : VE X W os (.UnaryOp op e1 pos) (eOp1 g f1) os1 false := by
  obtain ⟨ta, pa, ka⟩ := ha
  obtain ⟨rr, po, ko⟩ := ho
  refine ⟨_, pe_un po pa, fun S σ H ρ Q rel P => ?_⟩
  refine ka S σ H ρ _ rel (Post.seq P (fun z => z) (fun c fs p => p) fun d ρ1 v S1 H1 st1 rel1 q1 P1 => ?_)
  obtain ⟨c, hc, k⟩ := post_of (P1.step RV.ok st1) rel1
  exact ko S1 H1 v d c _ rel1.sub q1 hc k
theorem ve_cmp {op : CmpOp} {g : D → D → Option D} (ho : Op2 X (compareOp op) g) (ha : VE X W os e1 f1 os1 false) (hb : VE X W os1 e2 f2 os2 false) (hm : behindInMarks op e2 = false := by first | exact nomark _ | rfl) :
    VE X W os (.Compare e1 [op] [e2] pos) (eOp2 g f1 f2) os2 false := by
  obtain ⟨ta, pa, ka⟩ := ha
  obtain ⟨tb, pb, kb⟩ := hb
  obtain ⟨rr, po, ko⟩ := ho
  refine ⟨_, pe_cmpR po pa pb hm, fun S σ H ρ Q rel P => ?_⟩
  refine ka S σ H ρ _ rel (Post.seq P (fun z => z) (fun c fs p => p) fun d ρ1 v S1 H1 st1 rel1 q1 P1 => ?_)
  have P1 := P1.step RV.ok st1
  refine kb S1 σ H1 ρ1 _ rel1 (Post.seq P1 (fun z => z) (fun c fs p => p) fun d2 ρ2 v2 S2 H2 st2 rel2 q2 P2 => ?_)
  obtain ⟨c, hc, k⟩ := post_of (P2.step RV.ok st2) rel2
  exact ko S2 H2 v v2 d d2 c _ rel2.sub (At.mono st2.ext.s q1) q2 hc k

/-! ### argument lists, displays -/
theorem va_nil : VA X W os [] aNil os := ⟨_, pa_nil, fun S σ H ρ Q rel P => P.fin (os' := os) rel ⟨.nil, rfl⟩⟩
theorem va_cons {es : List Expr} {g : Rho → Out (List D × Rho)} (ha : VE X W os e f os1 false) (hb : VA X W os1 es g os2) (hs : starEach (e :: es) X.env = (false, eval e X.env) :: starEach es X.env := by rfl) :
    VA X W os (e :: es) (aCons f g) os2 := by
  obtain ⟨ta, pa, ka⟩ := ha
  obtain ⟨tb, pb, kb⟩ := hb
  refine ⟨_, pa_cons pa pb hs, fun S σ H ρ Q rel P => ?_⟩
  refine ka S σ H ρ _ rel (Post.seq P (fun z => z) (fun c fs p => p) fun d ρ1 v S1 H1 st1 rel1 q1 P1 => ?_)
  have P1 := P1.step RL.ok st1
  refine kb S1 σ H1 ρ1 _ rel1 (Post.seq P1 (fun z => z) (fun c fs p => p) fun d2 ρ2 v2 S2 H2 st2 rel2 q2 P2 => ?_)
  exact (P2.step RL.ok st2).fin (os' := os2) rel2 ⟨.cons (At.mono st2.ext.s q1) q2.1, by rw [List.length_cons, List.length_cons, q2.2]⟩
theorem sz1000 {n : Nat} (h : n ≤ 1000) : n ≤ sizeLine := Nat.le_of_lt (small1000 h)
theorem ve_tup {es : List Expr} {g : Rho → Out (List D × Rho)} {x1} (ha : VA X W os es g os1) (hz : es.length ≤ 1000 := by decide) : VE X W os (.Tuple es x1 pos) (eTup g) os1 false := by
  obtain ⟨ta, pa, ka⟩ := ha
  refine ⟨_, pe_tup pa, fun S σ H ρ Q rel P => ?_⟩
  refine ka S σ H ρ _ rel (Post.seq P (fun z => z) (fun c fs p => p) fun d ρ1 vs S1 H1 st1 rel1 q1 P1 => ?_)
  refine ⟨by rw [q1.1.length, q1.2]; exact sz1000 hz, fun p np => ?_⟩
  have x := Ext.new (O := fun _ => False) (o := .tup vs) rel1.sub np
  exact (P1.step RV.ok st1) _ _ _ (Stp.of_ext x) (rel1.ext0 x) (.tup (.inl (.inl upd_same)) (by rw [q1.2]; exact sz1000 hz) (q1.1.mono x.s))
/-- a new list is told: it stands from now on -/
theorem VE.fz (ha : VE X W os e f os1 true) (hle : Le os1 os := by rfl) : VE X W os e f os1 false := by
  obtain ⟨ta, pa, ka⟩ := ha
  refine ⟨_, pa, fun S σ H ρ Q rel P => ?_⟩
  refine ka S σ H ρ _ rel ?_
  cases h : f ρ with
  | exc c fs => rw [h] at P; exact P
  | stuck => rw [h] at P; exact P
  | ok z =>
    obtain ⟨d, ρ1⟩ := z
    rw [h] at P
    intro v S1 H1 st1 rel1 q1
    have q1 : OwnAt X.K S1 H1 v d ∧ ∀ a, v = .ref a → H a = none := q1
    obtain ⟨⟨a, e, n, qq⟩, fr⟩ := q1
    subst e
    have na := fr a rfl
    have key : ∀ o, H1 a = some o → (Same S1 (upd S1 a o) → At X.K (upd S1 a o) (.ref a) d) → Q (.ref a) H1 := fun o eh hat => by
      have sm : Same S1 (upd S1 a o) := fun b x e => by
        have hb : b ≠ a := fun z => by rw [z, n] at e; cases e
        rw [upd_ne hb]; exact e
      have sh : Same (upd S1 a o) H1 := fun b x e => by
        by_cases hb : b = a
        · subst hb; rw [upd_same] at e; rw [eh]; exact e
        · rw [upd_ne hb] at e; exact rel1.sub b x e
      have hno : ∀ j, os1.getD j false = true → σ[j]? ≠ some (some (.ref a)) := fun j hj hs => by
        obtain ⟨_, o, eo⟩ := rel.owned ⟨j, getD_le hle hj, hs⟩
        rw [na] at eo
        cases eo
      refine P (.ref a) (upd S1 a o) H1 ⟨⟨st1.ext.s.trans sm, sh, fun b x e nb no => ?_, st1.ext.there⟩, st1.own⟩ ⟨sh, rel1.len, fun j x y e1 e2 => ?_, rel1.sep⟩ (hat sm)
      · obtain ⟨e1, n1⟩ := st1.ext.fr b x e nb no
        rw [upd_ne (ne_of_none e na)]
        exact ⟨e1, n1⟩
      · have q := rel1.slot j x y e1 e2
        cases hoj : os1.getD j false <;> rw [hoj] at q <;> cases x <;> cases y <;> simp only [SlotAt] at q ⊢
        · exact q.mono sm
        · obtain ⟨b, eb, nb, q⟩ := q
          subst eb
          have hb : b ≠ a := fun z => hno j hoj (by rw [e1, z])
          refine ⟨b, rfl, by rw [upd_ne hb]; exact nb, ?_⟩
          obtain ⟨o', eh', bd⟩ := q
          exact ⟨o', eh', bd.mono sm⟩
    obtain ⟨o, eh, bd⟩ := qq
    exact key _ eh fun sm => (bd.mono sm).at upd_same
/-- a list display -/
theorem ve_lstO {es : List Expr} {g : Rho → Out (List D × Rho)} (ha : VA X W os es g os1) (hz : es.length ≤ 1000 := by decide) : VE X W os (.List es pos) (eLst g) os1 true := by
  obtain ⟨ta, pa, ka⟩ := ha
  refine ⟨_, pe_lst pa, fun S σ H ρ Q rel P => ?_⟩
  refine ka S σ H ρ _ rel (Post.seq P (fun z => z) (fun c fs p => p) fun d ρ1 vs S1 H1 st1 rel1 q1 P1 => ?_)
  refine ⟨by rw [q1.1.length, q1.2]; exact sz1000 hz, fun p np => ?_⟩
  have x := Ext.newO (O := fun _ => False) (o := .lst vs) rel1.sub np
  exact (P1.step RV.ok st1) _ _ _ (Stp.of_ext x) (rel1.ext0 x) ⟨.mkL (rel1.sub.free np) upd_same (by rw [q1.2]; exact sz1000 hz) (q1.1), fun a e => by cases e; exact np⟩

/-! ### tests -/
theorem vt_val (ha : VE X W os e f os1 false) (he : ∀ whole, isTrue e X.env whole = (do let v ← whole; standAt e.pos; holding [v] (truthy v)) := by intro _; rfl) : VT X W os e (tVal f) os1 := by
  obtain ⟨ta, pa, ka⟩ := ha
  refine ⟨_, pt_val pa he, fun S σ H ρ Q rel P => ?_⟩
  refine ka S σ H ρ _ rel (Post.seq P (fun z => z) (fun c fs p => p) fun d ρ1 v S1 H1 st1 rel1 q1 P1 => ?_)
  cases q1 with
  | bl b => exact ⟨b, rfl, (P1.step RB.ok st1).fin (os' := os1) rel1 rfl⟩
  | _ => exact P1.elim
theorem vt_cmp {op : CmpOp} {g : D → D → Option D} (ho : Op2 X (compareOp op) g) (ha : VE X W os e1 f1 os1 false) (hb : VE X W os1 e2 f2 os2 false) (hm : behindInMarks op e2 = false := by first | exact nomark _ | rfl) :
    VT X W os (.Compare e1 [op] [e2] pos) (tVal (eOp2 g f1 f2)) os2 := by
  obtain ⟨ta, pa, ka⟩ := ha
  obtain ⟨tb, pb, kb⟩ := hb
  obtain ⟨rr, po, ko⟩ := ho
  refine ⟨_, pt_cmpR po pa pb hm, fun S σ H ρ Q rel P => ?_⟩
  have P : Post X W S H os σ os2 RB Q ((f1 ρ).bind fun p => ((f2 p.2).bind fun q => (Out.of (g p.1 q.1)).bind fun c => Out.ok (c, q.2)).bind fun p => match p.1 with
    | .bl b => Out.ok (b, p.2)
    | _ => Out.stuck) := by
    unfold tVal eOp2 at P
    cases h : f1 ρ <;> rw [h] at P <;> exact P
  refine ka S σ H ρ _ rel (Post.seq P (fun z => z) (fun c fs p => p) fun d ρ1 v S1 H1 st1 rel1 q1 P1 => ?_)
  have P1 := P1.step RB.ok st1
  have P1 : Post X W S1 H1 os1 σ os2 RB Q ((f2 ρ1).bind fun q => ((Out.of (g d q.1)).bind fun c => Out.ok (c, q.2)).bind fun p => match p.1 with
    | .bl b => Out.ok (b, p.2)
    | _ => Out.stuck) := by
    dsimp only at P1
    cases h : f2 ρ1 <;> rw [h] at P1 <;> exact P1
  refine kb S1 σ H1 ρ1 _ rel1 (Post.seq P1 (fun z => z) (fun c fs p => p) fun d2 ρ2 v2 S2 H2 st2 rel2 q2 P2 => ?_)
  have P2 := P2.step RB.ok st2
  dsimp only at P2
  cases hc : g d d2 with
  | none => rw [hc] at P2; exact P2.elim
  | some c =>
    rw [hc] at P2
    refine ko S2 H2 v v2 d d2 c _ rel2.sub (At.mono st2.ext.s q1) q2 hc fun v' S' H' x hat => ?_
    cases hat with
    | bl b => exact ⟨b, rfl, P2 b S' H' (Stp.of_ext x) (rel2.ext0 x) rfl⟩
    | _ => exact P2.elim
theorem VW.vt {g : Rho → Out (Bool × Rho)} (h : VW X W os e g os1) : VT X W os e g os1 := by
  obtain ⟨t, p, k⟩ := h
  exact ⟨t, p.pt, k⟩
section
variable {g g1 g2 : Rho → Out (Bool × Rho)} {a b : Expr} {rest : List Expr}
theorem vt_not (h : VT X W os a g os1) : VT X W os (.UnaryOp .Not a pos) (tNotF g) os1 := by
  obtain ⟨t, p, k⟩ := h
  refine ⟨_, pt_not p, fun S σ H ρ Q rel P => ?_⟩
  refine k S σ H ρ _ rel (Post.seq P (fun z => z) (fun c fs p => p) fun d ρ1 v S1 H1 st1 rel1 q1 P1 => ?_)
  cases q1
  exact (P1.step RB.ok st1).fin (os' := os1) rel1 rfl
theorem vw_and1 (h : VT X W os a g os1) : VW X W os (.BoolOp .And [a] pos) g os1 := by
  obtain ⟨t, p, k⟩ := h
  exact ⟨t, pw_and1 p, k⟩
theorem vw_or1 (h : VT X W os a g os1) : VW X W os (.BoolOp .Or [a] pos) g os1 := by
  obtain ⟨t, p, k⟩ := h
  exact ⟨t, pw_or1 p, k⟩
theorem vw_and (h : VT X W os a g1 os) (h2 : VW X W os (.BoolOp .And (b :: rest) pos) g2 os) : VW X W os (.BoolOp .And (a :: b :: rest) pos) (tAndF g1 g2) os := by
  obtain ⟨t, p, k⟩ := h
  obtain ⟨t2, p2, k2⟩ := h2
  refine ⟨_, pw_and p p2, fun S σ H ρ Q rel P => ?_⟩
  refine k S σ H ρ _ rel (Post.seq P (fun z => z) (fun c fs p => p) fun d ρ1 v S1 H1 st1 rel1 q1 P1 => ?_)
  cases q1
  cases d with
  | true => exact k2 S1 σ H1 ρ1 Q rel1 (Post.step RB.ok P1 st1)
  | false => exact (Post.step RB.ok P1 st1).fin (os' := os) rel1 rfl
theorem vw_or (h : VT X W os a g1 os) (h2 : VW X W os (.BoolOp .Or (b :: rest) pos) g2 os) : VW X W os (.BoolOp .Or (a :: b :: rest) pos) (tOrF g1 g2) os := by
  obtain ⟨t, p, k⟩ := h
  obtain ⟨t2, p2, k2⟩ := h2
  refine ⟨_, pw_or p p2, fun S σ H ρ Q rel P => ?_⟩
  refine k S σ H ρ _ rel (Post.seq P (fun z => z) (fun c fs p => p) fun d ρ1 v S1 H1 st1 rel1 q1 P1 => ?_)
  cases q1
  cases d with
  | true => exact (Post.step RB.ok P1 st1).fin (os' := os) rel1 rfl
  | false => exact k2 S1 σ H1 ρ1 Q rel1 (Post.step RB.ok P1 st1)
/-! and, or, not as values (truths) -/
def eAndF (f g : Rho → Out (D × Rho)) : Rho → Out (D × Rho) := fun ρ => (f ρ).bind fun p => match p.1 with
  | .bl true => g p.2
  | .bl false => .ok (.bl false, p.2)
  | _ => .stuck
def eOrF (f g : Rho → Out (D × Rho)) : Rho → Out (D × Rho) := fun ρ => (f ρ).bind fun p => match p.1 with
  | .bl true => .ok (.bl true, p.2)
  | .bl false => g p.2
  | _ => .stuck
def eNotF (f : Rho → Out (D × Rho)) : Rho → Out (D × Rho) := fun ρ => (f ρ).bind fun p => match p.1 with
  | .bl b => .ok (.bl (!b), p.2)
  | _ => .stuck
theorem ve_one {op} (h : VE X W os a f os1 false) : VE X W os (.BoolOp op [a] pos) f os1 false := by
  obtain ⟨t, p, k⟩ := h
  exact ⟨t, pe_one p, k⟩
theorem ve_and (h : VE X W os a f1 os false) (h2 : VE X W os (.BoolOp .And (b :: rest) pos) f2 os false) : VE X W os (.BoolOp .And (a :: b :: rest) pos) (eAndF f1 f2) os false := by
  obtain ⟨t, p, k⟩ := h
  obtain ⟨t2, p2, k2⟩ := h2
  refine ⟨_, pe_and p p2, fun S σ H ρ Q rel P => ?_⟩
  refine k S σ H ρ _ rel (Post.seq P (fun z => z) (fun c fs p => p) fun d ρ1 v S1 H1 st1 rel1 q1 P1 => ?_)
  cases q1 with
  | bl c =>
    cases c with
    | true => exact ⟨true, rfl, k2 S1 σ H1 ρ1 Q rel1 (Post.step RV.ok P1 st1)⟩
    | false => exact ⟨false, rfl, (Post.step RV.ok P1 st1).fin (os' := os) rel1 (.bl false)⟩
  | _ => exact P1.elim
theorem ve_not (h : VE X W os a f os1 false) : VE X W os (.UnaryOp .Not a pos) (eNotF f) os1 false := by
  obtain ⟨t, p, k⟩ := h
  refine ⟨_, pe_not p, fun S σ H ρ Q rel P => ?_⟩
  refine k S σ H ρ _ rel (Post.seq P (fun z => z) (fun c fs p => p) fun d ρ1 v S1 H1 st1 rel1 q1 P1 => ?_)
  cases q1 with
  | bl c => exact ⟨c, rfl, (Post.step RV.ok P1 st1).fin (os' := os1) rel1 (.bl _)⟩
  | _ => exact P1.elim
end
end
end SW

set_option maxRecDepth 100000
/-! SW3: what a def promises by data (spec), calls, statements, targets, a def by its body. -/
namespace SW
open PySem PySem.Spec PyProof.Rows L2

/-! ### slots stored -/
section
variable {K : PySem.W.Frag} {S S' H H' : Hp} {os os' : Os} {σ σ' : Sg} {ρ ρ' : Rho} {i : Nat} {v : V} {d : D}
theorem getD_set {os : Os} {i j : Nat} {b : Bool} : (os.set i b).getD j false = true → (j ≠ i ∧ os.getD j false = true) ∨ (j = i ∧ b = true) := fun h => by
  by_cases e : i = j
  · subst e
    refine .inr ⟨rfl, ?_⟩
    by_cases hl : i < os.length
    · simpa [List.getD, hl] using h
    · rw [List.getD, List.getElem?_eq_none (by rw [List.length_set]; omega)] at h; cases h
  · rw [getD_set_ne e] at h; exact .inl ⟨fun z => e z.symm, h⟩
theorem own_set {a : Addr} (h : Own (os.set i false) (σ.set i (some v)) a) : Own os σ a := by
  obtain ⟨j, h1, h2⟩ := h
  rcases getD_set h1 with ⟨hj, h1⟩ | ⟨_, z⟩
  · rw [List.getElem?_set_ne (fun z => hj z.symm)] at h2; exact ⟨j, h1, h2⟩
  · cases z
theorem Rel.set (r : Rel K S H os σ ρ) (hv : At K S v d) (i : Nat) : Rel K S H (os.set i false) (σ.set i (some v)) (ρ.set i (some d)) where
  sub := r.sub
  len := by rw [List.length_set, List.length_set]; exact r.len
  slot := fun j x y e1 e2 => by
    by_cases hj : i = j
    · subst hj
      have hl : i < σ.length := by
        have := (List.getElem?_eq_some_iff.mp e1).1
        rwa [List.length_set] at this
      rw [List.getElem?_set_self hl] at e1
      rw [List.getElem?_set_self (by rw [← r.len]; exact hl)] at e2
      cases e1; cases e2
      rw [getD_set_self]; exact hv
    · rw [List.getElem?_set_ne hj] at e1 e2
      rw [getD_set_ne hj]; exact r.slot j x y e1 e2
  sep := fun j k a h1 h2 e1 e2 => by
    rcases getD_set h1 with ⟨hj, h1⟩ | ⟨_, z⟩
    · rcases getD_set h2 with ⟨hk, h2⟩ | ⟨_, z⟩
      · rw [List.getElem?_set_ne (fun z => hj z.symm)] at e1
        rw [List.getElem?_set_ne (fun z => hk z.symm)] at e2
        exact r.sep j k a h1 h2 e1 e2
      · cases z
    · cases z
theorem Rel.setO (r : Rel K S H os σ ρ) (hv : OwnAt K S H v d) (hn : ∀ a, v = .ref a → ∀ j, j ≠ i → os.getD j false = true → σ[j]? ≠ some (some (.ref a))) (hi : i < os.length) : Rel K S H (os.set i true) (σ.set i (some v)) (ρ.set i (some d)) where
  sub := r.sub
  len := by rw [List.length_set, List.length_set]; exact r.len
  slot := fun j x y e1 e2 => by
    by_cases hj : i = j
    · subst hj
      have hl : i < σ.length := by
        have := (List.getElem?_eq_some_iff.mp e1).1
        rwa [List.length_set] at this
      rw [List.getElem?_set_self hl] at e1
      rw [List.getElem?_set_self (by rw [← r.len]; exact hl)] at e2
      cases e1; cases e2
      have e : (os.set i true).getD i false = true := by simp [List.getD, hi]
      rw [e]; exact hv
    · rw [List.getElem?_set_ne hj] at e1 e2
      rw [getD_set_ne hj]; exact r.slot j x y e1 e2
  sep := fun j k a h1 h2 e1 e2 => by
    rcases getD_set h1 with ⟨hj, h1'⟩ | ⟨hj, _⟩
    · rw [List.getElem?_set_ne (fun z => hj z.symm)] at e1
      rcases getD_set h2 with ⟨hk, h2'⟩ | ⟨hk, _⟩
      · rw [List.getElem?_set_ne (fun z => hk z.symm)] at e2
        exact r.sep j k a h1' h2' e1 e2
      · subst hk
        have hl : k < σ.length := by
          have := (List.getElem?_eq_some_iff.mp e2).1
          rwa [List.length_set] at this
        rw [List.getElem?_set_self hl] at e2
        cases e2
        exact (hn a rfl j hj h1' e1).elim
    · rcases getD_set h2 with ⟨hk, h2'⟩ | ⟨hk, _⟩
      · rw [List.getElem?_set_ne (fun z => hk z.symm)] at e2
        subst hj
        have hl : j < σ.length := by
          have := (List.getElem?_eq_some_iff.mp e1).1
          rwa [List.length_set] at this
        rw [List.getElem?_set_self hl] at e1
        cases e1
        exact (hn a rfl k hk h2' e2).elim
      · rw [hj, hk]
theorem own_setO {a : Addr} (h : Own (os.set i true) (σ.set i (some v)) a) : Own os σ a ∨ v = .ref a := by
  obtain ⟨j, h1, h2⟩ := h
  rcases getD_set h1 with ⟨hj, h1⟩ | ⟨hj, _⟩
  · rw [List.getElem?_set_ne (fun z => hj z.symm)] at h2; exact .inl ⟨j, h1, h2⟩
  · subst hj
    have hl : j < σ.length := by
      have := (List.getElem?_eq_some_iff.mp h2).1
      rwa [List.length_set] at this
    rw [List.getElem?_set_self hl] at h2
    cases h2
    exact .inr rfl
/-- the cell of an owning slot holds other data now -/
theorem Rel.turn (r : Rel K S H os σ ρ) {a : Addr} (ho : os.getD i false = true) (hs : σ[i]? = some (some (.ref a))) {o : HO} (hn : OwnAt K S (upd H a o) (.ref a) d) : Rel K S (upd H a o) os σ (ρ.set i (some d)) where
  sub := fun b x e => by
    have hb : b ≠ a := fun z => by
      obtain ⟨a', e', n, _⟩ := hn
      cases e'
      rw [z, n] at e; cases e
    rw [upd_ne hb]; exact r.sub b x e
  len := by rw [List.length_set]; exact r.len
  slot := fun j x y e1 e2 => by
    by_cases hj : i = j
    · subst hj
      rw [hs] at e1
      have hl : i < ρ.length := by
        have := (List.getElem?_eq_some_iff.mp e2).1
        rwa [List.length_set] at this
      rw [List.getElem?_set_self hl] at e2
      cases e1; cases e2
      rw [ho]; exact hn
    · rw [List.getElem?_set_ne hj] at e2
      have q := r.slot j x y e1 e2
      cases hoj : os.getD j false <;> rw [hoj] at q <;> cases x <;> cases y <;> simp only [SlotAt] at q ⊢
      · exact q
      · obtain ⟨b, eb, nb, q⟩ := q
        subst eb
        have hb : b ≠ a := fun z => hj (r.sep i j a ho hoj hs (by rw [e1, z]))
        refine ⟨b, rfl, nb, ?_⟩
        rw [upd_ne hb]; exact q
  sep := r.sep
theorem Stp.turn (r : Rel K S H os σ ρ) {a : Addr} (ho : os.getD i false = true) (hs : σ[i]? = some (some (.ref a))) {o : HO} : Stp os σ S H os σ S (upd H a o) :=
  ⟨Ext.turn r.sub (r.owned ⟨i, ho, hs⟩).1 ⟨i, ho, hs⟩, fun _ q => .inl q⟩
end

/-! ### a def's promise, by data -/
def osP : Option Nat → Os
  | none => []
  | some k => List.replicate k false ++ [true]
/-- n parameters; pm: the parameter whose list or dict the def turns; r: the told list is a new one, the asker's own; m: the value and what the turned one holds then -/
def spec (K : PySem.W.Frag) (mg : Str → Option Value) (n : Nat) (pm : Option Nat) (r : Bool) (m : List D → Out (D × D)) : Sp := fun vs H Q E =>
  vs.length = n ∧ ∃ S ds, Rel K S H (osP pm) (vs.map some) (ds.map some) ∧ match m ds with
    | .ok (d, o) => ∀ v S' H', Ext (Own (osP pm) (vs.map some)) S H S' H' → RV K r H S' H' v d → (∀ k u, pm = some k → vs[k]? = some u → OwnAt K S' H' u o) → Q v H'
    | .exc c fs => ∀ S' H' cls dd, Ext (Own (osP pm) (vs.map some)) S H S' H' → ExcAt K mg S' c fs cls dd → E cls dd H'
    | .stuck => False

theorem rel_args {K : PySem.W.Frag} {S H : Hp} {vs : List V} {ds : List D} (h : AtL K S vs ds) (sub : Same S H) : Rel K S H [] (vs.map some) (ds.map some) where
  sub := sub
  len := by rw [List.length_map, List.length_map, h.length]
  slot := fun i x y e1 e2 => by
    rw [List.getElem?_map] at e1 e2
    cases ed : ds[i]? with
    | none => rw [ed] at e2; cases e2
    | some d =>
      obtain ⟨v, ev, hat⟩ := h.get ed
      rw [ed] at e2; rw [ev] at e1
      cases e1; cases e2
      exact hat
  sep := fun i j a h1 => by simp [List.getD] at h1
theorem own_nil {σ : Sg} {a : Addr} (h : Own [] σ a) : False := by
  obtain ⟨i, h, _⟩ := h
  simp [List.getD] at h

def eCall (m : List D → Out (D × D)) (g : Rho → Out (List D × Rho)) : Rho → Out (D × Rho) := fun ρ => (g ρ).bind fun p => (m p.1).bind fun q => .ok (q.1, p.2)

section
variable {X : Cx} {W : WX} {os os1 os2 os3 : Os} {e e1 e2 : Expr} {f f1 f2 : Rho → Out (D × Rho)} {pos p : Pos} {r r1 r2 : Bool} {es : List Expr} {g : Rho → Out (List D × Rho)}
theorem ve_call {x : Str} {k : Nat} {fa : Addr} {fd : FuncData} {ps : List Str} {m : List D → Out (D × D)} (F : FnOk X.prog X.w X.K X.mg X.base (L2.CX X.prog X.w) k fa fd ps (spec X.K X.mg (es.length + 1) none r m)) (tk : Takes X W)
    (hr : Room k X.A) (hm : X.mg x = some (.ref fa)) (hk : PySem.W.keepIn X.K (.ref fa) = true) (hb : Binds X.K fd ps []) (ha : VA X W os (e :: es) g os1) (hg : Gl X x := by rfl) (hdb : (x == ("__debug__" : Str)) = false := by decide)
    (he : starEach (e :: es) X.env = (false, eval e X.env) :: starEach es X.env := by rfl) (hpl : (backTo pos (starEach es X.env)).any (·.1) = false := by rfl) :
    VE X W os (.Call (.Name x p) (e :: es) [] pos) (eCall m g) os1 r := by
  obtain ⟨ta, pa, ka⟩ := ha
  refine ⟨_, pe_callS F hr hg hm hk hb (fun σ => passAt tk σ) pa hdb he hpl, fun S σ H ρ Q rel P => ?_⟩
  refine ka S σ H ρ _ rel (Post.seq P (fun z => z) (fun c fs p => p) fun ds ρ1 vs S1 H1 st1 rel1 q1 P1 => ?_)
  have P1 := P1.step RV.ok st1
  refine ⟨by rw [q1.1.length, q1.2]; rfl, S1, ds, rel_args q1.1 rel1.sub, ?_⟩
  dsimp only at P1
  cases hmd : m ds with
  | ok z =>
    rw [hmd] at P1
    intro v S' H' x q _
    have x' : Ext (fun _ => False) S1 H1 S' H' := x.weak fun _ z => own_nil z
    exact P1 v S' H' (Stp.of_ext x') (rel1.ext0 x') q
  | exc c fs =>
    rw [hmd] at P1
    exact fun S' H' cls dd x q => P1 S' H' cls dd (x.weak fun _ z => (own_nil z).elim) q
  | stuck => rw [hmd] at P1; exact P1.elim

/-! ### calls that turn what one name holds -/
/-- the arguments' list has at place k the owning slot i itself -/
def RLB (K : PySem.W.Frag) (σ : Sg) (n k i : Nat) : RR (List D) (List V) := fun _ S' _ vs ds => vs.length = n ∧ ds.length = n ∧ (∃ u, vs[k]? = some u ∧ σ[i]? = some (some u)) ∧ ∀ j d, j ≠ k → ds[j]? = some d → ∃ v, vs[j]? = some v ∧ At K S' v d
theorem RLB.ok {K : PySem.W.Frag} {σ : Sg} {n k i : Nat} : (RLB K σ n k i).Ok := fun _ _ _ _ _ _ _ q => q
def VB (X : Cx) (W : WX) (os : Os) (es : List Expr) (k i : Nat) (f : Rho → Out (List D × Rho)) (os' : Os) : Prop :=
  ∃ t, PA X es t ∧ ∀ S σ H ρ Q, Rel X.K S H os σ ρ → Post X W S H os σ os' (RLB X.K σ es.length k i) Q (f ρ) → t σ H Q
def aHole (g : Rho → Out (List D × Rho)) : Rho → Out (List D × Rho) := fun ρ => (g ρ).bind fun p => .ok (.non :: p.1, p.2)
theorem vb_here (i : Nat) {x : Str} (ha : VA X W os es g os1) (ho : os.getD i false = true := by rfl) (hN : X.N[i]? = some x := by rfl) (hv : Vis X.env.scope x := by first | exact Or.inl rfl | exact Or.inr (Or.inl rfl) | exact Or.inr (Or.inr rfl))
    (hd : (x == ("__debug__" : Str)) = false := by decide) (hcd : (x == ("__classdict__" : Str)) = false := by decide) (hs : starEach (.Name x p :: es) X.env = (false, eval (.Name x p) X.env) :: starEach es X.env := by rfl) :
    VB X W os (.Name x p :: es) 0 i (fun ρ => match ρ.getD i none with | some _ => aHole g ρ | none => .stuck) os1 := by
  obtain ⟨ta, pa, ka⟩ := ha
  refine ⟨_, pa_cons (pe_var hN hv hd hcd) pa hs, fun S σ H ρ Q rel P => ?_⟩
  cases h : ρ.getD i none with
  | none => dsimp only at P; rw [h] at P; exact P.elim
  | some d =>
    dsimp only at P; rw [h] at P
    have e : ρ[i]? = some (some d) := by
      cases q : ρ[i]? with
      | none => simp [List.getD, q] at h
      | some y => simp [List.getD, q] at h; rw [h]
    obtain ⟨v, ev, _⟩ := rel.own e ho
    refine ⟨v, ev, ?_⟩
    refine ka S σ H ρ _ rel (Post.seq P (fun z => z) (fun c fs p => p) fun ds ρ1 vs S1 H1 st1 rel1 q1 P1 => ?_)
    refine (P1.step RLB.ok st1).fin (os' := os1) rel1 ⟨by rw [List.length_cons, List.length_cons, q1.1.length, q1.2], by rw [List.length_cons, List.length_cons, q1.2], ⟨v, rfl, ev⟩, fun j d hj ed => ?_⟩
    cases j with
    | zero => exact (hj rfl).elim
    | succ j => exact q1.1.get (i := j) (by simpa using ed)
def eCallM (m : List D → Out (D × D)) (k i : Nat) (g : Rho → Out (List D × Rho)) : Rho → Out (D × Rho) := fun ρ => (g ρ).bind fun p => match p.2.getD i none with
  | some d => (m (p.1.set k d)).bind fun q => .ok (q.1, p.2.set i (some q.2))
  | none => .stuck
theorem osP_get {k j : Nat} : (osP (some k)).getD j false = true ↔ j = k := by
  unfold osP
  constructor
  · intro h
    by_cases h1 : j < k
    · simp [List.getD, List.getElem?_append, h1] at h
    · by_cases h2 : j = k
      · exact h2
      · rw [List.getD, List.getElem?_eq_none (by simp; omega)] at h; cases h
  · intro h
    subst h
    simp [List.getD]
theorem ve_callM {x : Str} {kk k i : Nat} {fa : Addr} {fd : FuncData} {ps : List Str} {m : List D → Out (D × D)} (F : FnOk X.prog X.w X.K X.mg X.base (L2.CX X.prog X.w) kk fa fd ps (spec X.K X.mg (es.length + 1) (some k) r m)) (tk : Takes X W)
    (hr : Room kk X.A) (hm : X.mg x = some (.ref fa)) (hk : PySem.W.keepIn X.K (.ref fa) = true) (hb : Binds X.K fd ps []) (ha : VB X W os (e :: es) k i g os1) (ho : os1.getD i false = true := by rfl) (hg : Gl X x := by rfl) (hdb : (x == ("__debug__" : Str)) = false := by decide)
    (he : starEach (e :: es) X.env = (false, eval e X.env) :: starEach es X.env := by rfl) (hpl : (backTo pos (starEach es X.env)).any (·.1) = false := by rfl) :
    VE X W os (.Call (.Name x p) (e :: es) [] pos) (eCallM m k i g) os1 r := by
  obtain ⟨ta, pa, ka⟩ := ha
  refine ⟨_, pe_callS F hr hg hm hk hb (fun σ => passAt tk σ) pa hdb he hpl, fun S σ H ρ Q rel P => ?_⟩
  refine ka S σ H ρ _ rel (Post.seq P (fun z => z) (fun c fs p => p) fun ds ρ1 vs S1 H1 st1 rel1 q1 P1 => ?_)
  have P1 := P1.step RV.ok st1
  obtain ⟨l1, l2, ⟨u, ku, eu⟩, q1⟩ := q1
  dsimp only at P1
  cases hd : ρ1.getD i none with
  | none => rw [hd] at P1; exact P1.elim
  | some d =>
    rw [hd] at P1
    dsimp only at P1
    have e1 : ρ1[i]? = some (some d) := by
      cases q : ρ1[i]? with
      | none => simp [List.getD, q] at hd
      | some y => simp [List.getD, q] at hd; rw [hd]
    obtain ⟨u', eu', hown⟩ := rel1.own e1 ho
    have eqq := eu.symm.trans eu'
    cases eqq
    have hkl : k < ds.length := by rw [l2, ← l1]; exact (List.getElem?_eq_some_iff.mp ku).1
    refine ⟨l1, S1, ds.set k d, ⟨rel1.sub, by rw [List.length_map, List.length_map, List.length_set, l1, l2], fun j x y e1 e2 => ?_, fun j j' a h1 h2 _ _ => by rw [osP_get.mp h1, osP_get.mp h2]⟩, ?_⟩
    · rw [List.getElem?_map] at e1 e2
      by_cases hj : j = k
      · subst hj
        rw [osP_get.mpr rfl]
        rw [ku] at e1
        rw [List.getElem?_set_self hkl] at e2
        cases e1; cases e2
        exact hown
      · have hf : (osP (some k)).getD j false = false := by
          cases h : (osP (some k)).getD j false
          · rfl
          · exact (hj (osP_get.mp h)).elim
        rw [hf]
        rw [List.getElem?_set_ne (fun z => hj z.symm)] at e2
        cases ed : ds[j]? with
        | none => rw [ed] at e2; cases e2
        | some d' =>
          obtain ⟨v, ev, hat⟩ := q1 j d' hj ed
          rw [ed] at e2; rw [ev] at e1
          cases e1; cases e2
          exact hat
    · have conv : ∀ a, Own (osP (some k)) (vs.map some) a → σ[i]? = some (some (.ref a)) := fun a ⟨j, h1, h2⟩ => by
        have hj := osP_get.mp h1
        subst hj
        rw [List.getElem?_map, ku] at h2
        have h3 : u = .ref a := by simpa using h2
        rw [eu, h3]
      have hsub : ∀ a, Own (osP (some k)) (vs.map some) a → Own os1 σ a := fun a h => ⟨i, ho, conv a h⟩
      cases hmd : m (ds.set k d) with
      | ok z =>
        rw [hmd] at P1
        intro v S' H' x q qo
        have qo := qo k u rfl ku
        refine P1 v S' H' ⟨x.weak hsub, fun _ q => .inl q⟩ ⟨x.sh, by rw [List.length_set]; exact rel1.len, fun j xx yy e1 e2 => ?_, rel1.sep⟩ q
        by_cases hj : i = j
        · subst hj
          have hl : i < ρ1.length := by
            have := (List.getElem?_eq_some_iff.mp e2).1
            rwa [List.length_set] at this
          rw [List.getElem?_set_self hl] at e2
          rw [eu] at e1
          cases e1; cases e2
          rw [ho]; exact qo
        · rw [List.getElem?_set_ne hj] at e2
          have qq := rel1.slot j xx yy e1 e2
          cases hoj : os1.getD j false <;> rw [hoj] at qq <;> cases xx <;> cases yy <;> simp only [SlotAt] at qq ⊢
          · exact qq.mono x.s
          · refine qq.ext x fun a ea hz => hj (rel1.sep i j a ho hoj (conv a hz) (by rw [e1, ea]))
      | exc c fs =>
        rw [hmd] at P1
        exact fun S' H' cls dd x q => P1 S' H' cls dd (x.weak hsub) q
      | stuck => rw [hmd] at P1; exact P1.elim
end
end SW

set_option maxRecDepth 100000
/-! SW4: statements: what is wanted behind them (PostS), the judgement VS, blocks, if, return, assignments, targets, a def by its body. -/
namespace SW
open PySem PySem.Spec PyProof.Rows L2

inductive Fl where
  | nx (ρ : Rho) | rt (d : D) (ρ : Rho) | bk (ρ : Rho) | ct (ρ : Rho)

/-- the slots that no statement stores -/
def FixOn (fx : Os) (σ σ' : Sg) : Prop := σ'.length = σ.length ∧ ∀ i, fx.getD i false = true → σ'[i]? = σ[i]?
theorem FixOn.refl {fx : Os} {σ : Sg} : FixOn fx σ σ := ⟨rfl, fun _ _ => rfl⟩
theorem FixOn.trans {fx : Os} {σ σ1 σ2 : Sg} (a : FixOn fx σ σ1) (b : FixOn fx σ1 σ2) : FixOn fx σ σ2 := ⟨b.1.trans a.1, fun i h => (b.2 i h).trans (a.2 i h)⟩

/-- a loop's and a def's own: where break and continue lead, what is told, which slots are fixed -/
structure Lc where
  fx : Os
  bk : Os
  ct : Os
  r : Bool

def RetAt (K : PySem.W.Frag) (r : Bool) (os : Os) (σ : Sg) (fx : Os) (H S' H' : Hp) (v : V) (d : D) : Prop :=
  if r = true then OwnAt K S' H' v d ∧ (∀ a, v = .ref a → H a = none ∨ Own os σ a) ∧ (∀ i, fx.getD i false = true → σ[i]? ≠ some (some v)) else At K S' v d

def PostS (X : Cx) (W : WX) (L : Lc) (S H : Hp) (os : Os) (σ : Sg) (osN : Os) (Ds : Ends) : Out Fl → Prop
  | .ok (.nx ρ') => ∀ σ' S' H', Stp os σ S H osN σ' S' H' → FixOn L.fx σ σ' → Rel X.K S' H' osN σ' ρ' → Ds.nx σ' H'
  | .ok (.bk ρ') => ∀ σ' S' H', Stp os σ S H L.bk σ' S' H' → FixOn L.fx σ σ' → Rel X.K S' H' L.bk σ' ρ' → Ds.bk σ' H'
  | .ok (.ct ρ') => ∀ σ' S' H', Stp os σ S H L.ct σ' S' H' → FixOn L.fx σ σ' → Rel X.K S' H' L.ct σ' ρ' → Ds.ct σ' H'
  | .ok (.rt d ρ') => ∀ v S' H', Ext (Own os σ) S H S' H' → RetAt X.K L.r os σ L.fx H S' H' v d →
      (∀ i u, L.fx.getD i false = true → σ[i]? = some (some u) → ∃ d', ρ'[i]? = some (some d') ∧ OwnAt X.K S' H' u d') → Ds.rt v H'
  | .exc c fs => ∀ σ' S' H' cls dd, Ext (Own os σ) S H S' H' → ExcAt X.K X.mg S' c fs cls dd → W cls dd σ' H'
  | .stuck => False

def VS (X : Cx) (W : WX) (L : Lc) (os : Os) (st : Stmt) (g : Rho → Out Fl) (osN : Os) : Prop :=
  ∃ t, PS X st t ∧ ∀ S σ H ρ Ds, Rel X.K S H os σ ρ → PostS X W L S H os σ osN Ds (g ρ) → t Ds σ H
def VSs (X : Cx) (W : WX) (L : Lc) (os : Os) (st : List Stmt) (g : Rho → Out Fl) (osN : Os) : Prop :=
  ∃ t, PSs X st t ∧ ∀ S σ H ρ Ds, Rel X.K S H os σ ρ → PostS X W L S H os σ osN Ds (g ρ) → t Ds σ H

section
variable {X : Cx} {W : WX} {L : Lc} {S H S1 H1 : Hp} {os os1 os2 osN : Os} {σ σ1 : Sg} {Ds : Ends}
theorem PostS.step {x : Out Fl} (p : PostS X W L S H os σ osN Ds x) (s : Stp os σ S H os1 σ1 S1 H1) (f : FixOn L.fx σ σ1) : PostS X W L S1 H1 os1 σ1 osN Ds x := by
  cases x with
  | ok z =>
    cases z with
    | nx ρ' => exact fun σ' S' H' s' f' r => p σ' S' H' (s.trans s') (f.trans f') r
    | bk ρ' => exact fun σ' S' H' s' f' r => p σ' S' H' (s.trans s') (f.trans f') r
    | ct ρ' => exact fun σ' S' H' s' f' r => p σ' S' H' (s.trans s') (f.trans f') r
    | rt d ρ' =>
      refine fun v S' H' e r hk => p v S' H' (s.ext.trans e s.own) ?_ fun i u hf hs => hk i u hf (by rw [f.2 i hf]; exact hs)
      unfold RetAt at r ⊢
      split
      · rename_i hr
        rw [if_pos hr] at r
        refine ⟨r.1, fun a ea => ?_, fun i hf => ?_⟩
        · rcases r.2.1 a ea with q | q
          · exact .inl (s.ext.there a q)
          · exact (s.own a q).symm
        · rw [← f.2 i hf]; exact r.2.2 i hf
      · rename_i hr
        rw [if_neg hr] at r
        exact r
  | exc c fs => exact fun σ' S' H' cls dd e q => p σ' S' H' cls dd (s.ext.trans e s.own) q
  | stuck => exact p
/-- an expression's outcome ahead of a statement's -/
theorem PostS.seqE {α β : Type} {R : RR α β} {Q : β → Hp → Prop} {x : Out (α × Rho)} {k : α × Rho → Out Fl} (P : PostS X W L S H os σ osN Ds (x.bind k))
    (h : ∀ d ρ1 b S1 H1, Stp os σ S H os1 σ S1 H1 → Rel X.K S1 H1 os1 σ ρ1 → R H S1 H1 b d → PostS X W L S1 H1 os1 σ osN Ds (k (d, ρ1)) → Q b H1) : Post X W S H os σ os1 R Q x :=
  Post.seq P (fun z => z) (fun _ _ p S' H' cls dd e q => p σ S' H' cls dd e q) fun d ρ1 b S1 H1 st rel q P => h d ρ1 b S1 H1 st rel q (PostS.step P st FixOn.refl)
theorem PostS.fin {ρ : Rho} (P : PostS X W L S H os σ os Ds (.ok (.nx ρ))) (rel : Rel X.K S H os σ ρ) : Ds.nx σ H := P σ S H (Stp.refl rel.sub) FixOn.refl rel
/-- a statement's outcome ahead of others -/
theorem PostS.seqS {x : Out Fl} {k : Rho → Out Fl} {N : L2.St → Hp → Prop} (P : PostS X W L S H os σ osN Ds (x.bind fun y => match y with | .nx ρ => k ρ | y => .ok y))
    (h : ∀ ρ1 σ1 S1 H1, Stp os σ S H os1 σ1 S1 H1 → FixOn L.fx σ σ1 → Rel X.K S1 H1 os1 σ1 ρ1 → PostS X W L S1 H1 os1 σ1 osN Ds (k ρ1) → N σ1 H1) : PostS X W L S H os σ os1 { Ds with nx := N } x := by
  cases x with
  | ok z =>
    cases z with
    | nx ρ' => exact fun σ' S' H' s' f' r => h ρ' σ' S' H' s' f' r (P.step s' f')
    | bk ρ' => exact P
    | ct ρ' => exact P
    | rt d ρ' => exact P
  | exc c fs => exact P
  | stuck => exact P
end

/-! ### the plain functions -/
def sSkip : Rho → Out Fl := fun ρ => .ok (.nx ρ)
def sSeq (g h : Rho → Out Fl) : Rho → Out Fl := fun ρ => (g ρ).bind fun y => match y with
  | .nx ρ => h ρ
  | y => .ok y
def sExpr (f : Rho → Out (D × Rho)) : Rho → Out Fl := fun ρ => (f ρ).bind fun p => .ok (.nx p.2)
def sRet (f : Rho → Out (D × Rho)) : Rho → Out Fl := fun ρ => (f ρ).bind fun p => .ok (.rt p.1 p.2)
def sRetN : Rho → Out Fl := fun ρ => .ok (.rt .non ρ)
def sIf (c : Rho → Out (Bool × Rho)) (g h : Rho → Out Fl) : Rho → Out Fl := fun ρ => (c ρ).bind fun p => if p.1 = true then g p.2 else h p.2
def sSet (i : Nat) (f : Rho → Out (D × Rho)) : Rho → Out Fl := fun ρ => (f ρ).bind fun p => .ok (.nx (p.2.set i (some p.1)))
def sStuck : Rho → Out Fl := fun _ => .stuck

section
variable {X : Cx} {W : WX} {L : Lc} {os os1 os2 os3 osN : Os} {e e1 e2 : Expr} {f f1 f2 : Rho → Out (D × Rho)} {pos p : Pos} {st : Stmt} {sts rest : List Stmt} {g h : Rho → Out Fl}
theorem vss_nil : VSs X W L os [] sSkip os := ⟨_, pss_nil, fun S σ H ρ Ds rel P => P.fin rel⟩
theorem vss_cons (a : VS X W L os st g os1) (b : VSs X W L os1 rest h os2) : VSs X W L os (st :: rest) (sSeq g h) os2 := by
  obtain ⟨t, pt, kt⟩ := a
  obtain ⟨u, pu, ku⟩ := b
  refine ⟨_, pss_cons pt pu, fun S σ H ρ Ds rel P => ?_⟩
  exact kt S σ H ρ _ rel (PostS.seqS P fun ρ1 σ1 S1 H1 s1 f1 r1 P1 => ku S1 σ1 H1 ρ1 Ds r1 P1)
theorem vss_one (a : VS X W L os st g os1) : VSs X W L os [st] g os1 := by
  obtain ⟨t, pt, kt⟩ := a
  exact ⟨t, pss_one pt, kt⟩
theorem vs_stuck : VS X W L os st sStuck osN := ⟨_, ps_never, fun _ _ _ _ _ _ P => P⟩
theorem vss_stuck : VSs X W L os sts sStuck osN := ⟨_, pss_never, fun _ _ _ _ _ _ P => P⟩
theorem vs_expr {r : Bool} (he : VE X W os e f os1 r) (hs : swapsWith e none pos.line X.env = pure false := by rfl) : VS X W L os (.Expr e pos) (sExpr f) os1 := by
  obtain ⟨t, pt, kt⟩ := he
  refine ⟨_, ps_expr pt hs, fun S σ H ρ Ds rel P => ?_⟩
  exact kt S σ H ρ _ rel (PostS.seqE P fun d ρ1 v S1 H1 s1 r1 q1 P1 => P1.fin r1)
theorem fix_end {σ : Sg} {S H : Hp} {ρ : Rho} {fx : Os} (rel : Rel X.K S H os σ ρ) (hf : Le fx os) : ∀ i u, fx.getD i false = true → σ[i]? = some (some u) → ∃ d', ρ[i]? = some (some d') ∧ OwnAt X.K S H u d' := fun i u h hs => by
  have ho := getD_le hf h
  have hl : i < ρ.length := by rw [← rel.len]; exact (List.getElem?_eq_some_iff.mp hs).1
  have q := rel.slot i _ _ hs (List.getElem?_eq_getElem hl)
  rw [ho] at q
  cases ed : ρ[i] with
  | none => rw [ed] at q; exact q.elim
  | some d => rw [ed] at q; exact ⟨d, by rw [List.getElem?_eq_getElem hl, ed], q⟩
theorem vs_ret (he : VE X W os e f os1 false) (hr : L.r = false := by rfl) (hf : Le L.fx os1 := by rfl) : VS X W L os (.Return (some e) pos) (sRet f) osN := by
  obtain ⟨t, pt, kt⟩ := he
  refine ⟨_, ps_ret pt, fun S σ H ρ Ds rel P => ?_⟩
  refine kt S σ H ρ _ rel (PostS.seqE P fun d ρ1 v S1 H1 s1 r1 q1 P1 => ?_)
  exact P1 v S1 H1 (Ext.refl r1.sub) (by unfold RetAt; rw [hr]; exact q1) (fix_end r1 hf)
theorem vs_retO (he : VE X W os e f os1 true) (hr : L.r = true := by rfl) (hf : Le L.fx os1 := by rfl) (hf0 : Le L.fx os := by rfl) : VS X W L os (.Return (some e) pos) (sRet f) osN := by
  obtain ⟨t, pt, kt⟩ := he
  refine ⟨_, ps_ret pt, fun S σ H ρ Ds rel P => ?_⟩
  refine kt S σ H ρ _ rel (Post.seq P (fun z => z) (fun _ _ p S' H' cls dd e q => p σ S' H' cls dd e q) fun d ρ1 v S1 H1 s1 r1 q1 P1 => ?_)
  refine P1 v S1 H1 s1.ext ?_ (fix_end r1 hf)
  unfold RetAt
  rw [hr]
  refine ⟨q1.1, fun a ea => .inl (q1.2 a ea), fun i hi hs => ?_⟩
  obtain ⟨a, o, ea, na, _⟩ := OwnAt.some_ q1.1
  subst ea
  obtain ⟨n, o, eo⟩ := rel.owned ⟨i, getD_le hf0 hi, hs⟩
  rw [q1.2 a rfl] at eo
  cases eo
/-- what an owning name holds is told -/
theorem vs_retV (i : Nat) {x : Str} (ho : os.getD i false = true := by rfl) (hr : L.r = true := by rfl) (hf : Le L.fx os := by rfl) (hfi : L.fx.getD i false = false := by rfl) (hN : X.N[i]? = some x := by rfl)
    (hv : Vis X.env.scope x := by first | exact Or.inl rfl | exact Or.inr (Or.inl rfl) | exact Or.inr (Or.inr rfl)) (hd : (x == ("__debug__" : Str)) = false := by decide) (hcd : (x == ("__classdict__" : Str)) = false := by decide) :
    VS X W L os (.Return (some (.Name x p)) pos) (sRet (eVar i)) osN := by
  refine ⟨_, ps_ret (pe_var hN hv hd hcd), fun S σ H ρ Ds rel P => ?_⟩
  unfold sRet eVar at P
  cases h : ρ.getD i none with
  | none => rw [h] at P; exact P.elim
  | some d =>
    rw [h] at P
    have e : ρ[i]? = some (some d) := by
      cases q : ρ[i]? with
      | none => simp [List.getD, q] at h
      | some y => simp [List.getD, q] at h; rw [h]
    obtain ⟨v, ev, q⟩ := rel.own e ho
    refine ⟨v, ev, P v S H (Ext.refl rel.sub) ?_ (fix_end rel hf)⟩
    unfold RetAt
    rw [hr]
    refine ⟨q, fun a ea => .inr ⟨i, ho, by rw [ev, ea]⟩, fun j hj hs => ?_⟩
    obtain ⟨a, o, ea, _⟩ := OwnAt.some_ q
    have hij : i = j := rel.sep i j a ho (getD_le hf hj) (by rw [ev, ea]) (by rw [hs, ea])
    rw [← hij, hfi] at hj
    cases hj
theorem vs_if {c : Expr} {a b : List Stmt} {gc : Rho → Out (Bool × Rho)} (hc : VT X W os c gc os1) (ha : VSs X W L os1 a g os2) (hb : VSs X W L os1 b h os2) : VS X W L os (.If c a b pos) (sIf gc g h) os2 := by
  obtain ⟨t, p, k⟩ := hc
  obtain ⟨ta, pa, ka⟩ := ha
  obtain ⟨tb, pb, kb⟩ := hb
  refine ⟨_, ps_if p pa pb, fun S σ H ρ Ds rel P => ?_⟩
  refine k S σ H ρ _ rel (PostS.seqE P fun d ρ1 v S1 H1 st1 rel1 q1 P1 => ?_)
  cases q1
  cases d with
  | true => exact ka S1 σ H1 ρ1 Ds rel1 P1
  | false => exact kb S1 σ H1 ρ1 Ds rel1 P1
theorem fix_set {fx : Os} {σ : Sg} {i : Nat} {v : Option V} (h : fx.getD i false = false) : FixOn fx σ (σ.set i v) := ⟨List.length_set, fun j hj => by
  have e : i ≠ j := fun z => by rw [← z, h] at hj; cases hj
  rw [List.getElem?_set_ne e]⟩
/-- x = e -/
theorem vs_set (i : Nat) {x : Str} (he : VE X W os e f os1 false) (hN : X.N.Nodup) (hi : X.N[i]? = some x := by rfl) (hx : Loc X.env.scope x := by first | exact Or.inl rfl | exact Or.inr rfl) (hfi : L.fx.getD i false = false := by rfl)
    (hs : swapsWith e (some (.Name x p)) pos.line X.env = pure false := by rfl) (hf : X.fn x = true ∨ X.env.scope.names.lookup x = some .local := by first | exact .inl rfl | exact .inr rfl | assumption) : VS X W L os (.Assign [.Name x p] e pos) (sSet i f) (os1.set i false) := by
  obtain ⟨t, pt, kt⟩ := he
  refine ⟨_, ps_set hN hi hx pt hs hf, fun S σ H ρ Ds rel P => ?_⟩
  refine kt S σ H ρ _ rel (PostS.seqE P fun d ρ1 v S1 H1 s1 r1 q1 P1 => ?_)
  exact P1 _ S1 H1 ⟨Ext.refl r1.sub, fun a q => .inl (own_set q)⟩ (fix_set hfi) (r1.set q1 i)
/-- x = e, x the owner of the new list or dict -/
theorem vs_setO (i : Nat) {x : Str} (he : VE X W os e f os1 true) (hN : X.N.Nodup) (hi : X.N[i]? = some x := by rfl) (hx : Loc X.env.scope x := by first | exact Or.inl rfl | exact Or.inr rfl) (hfi : L.fx.getD i false = false := by rfl) (hio : i < os1.length := by decide) (hle : Le os1 os := by rfl)
    (hs : swapsWith e (some (.Name x p)) pos.line X.env = pure false := by rfl) (hf : X.fn x = true ∨ X.env.scope.names.lookup x = some .local := by first | exact .inl rfl | exact .inr rfl | assumption) : VS X W L os (.Assign [.Name x p] e pos) (sSet i f) (os1.set i true) := by
  obtain ⟨t, pt, kt⟩ := he
  refine ⟨_, ps_set hN hi hx pt hs hf, fun S σ H ρ Ds rel P => ?_⟩
  refine kt S σ H ρ _ rel (Post.seq P (fun z => z) (fun _ _ p S' H' cls dd e q => p σ S' H' cls dd e q) fun d ρ1 v S1 H1 s1 r1 q1 P1 => ?_)
  refine P1 _ S1 H1 ⟨s1.ext, fun a q => ?_⟩ (fix_set hfi) (r1.setO q1.1 (fun a ea j hj ho hs => ?_) hio)
  · rcases own_setO q with q | q
    · exact s1.own a q
    · exact .inr (q1.2 a q)
  · obtain ⟨n, o, eo⟩ := rel.owned ⟨j, getD_le hle ho, hs⟩
    rw [q1.2 a ea] at eo
    cases eo

/-! ### targets of any form -/
/-- only the slots of ch are stored -/
def ChOn (ch : List Nat) (σ σ' : Sg) : Prop := σ'.length = σ.length ∧ ∀ i, i ∉ ch → σ'[i]? = σ[i]?
theorem ChOn.fix {ch : List Nat} {σ σ' : Sg} {fx : Os} (h : ChOn ch σ σ') (hf : ch.all (fun i => !fx.getD i false) = true) : FixOn fx σ σ' := ⟨h.1, fun i hi => h.2 i fun hm => by
  have q := List.all_eq_true.mp hf i hm
  rw [hi] at q
  cases q⟩
def VG (X : Cx) (os : Os) (tg : Expr) (b : D → Rho → Option Rho) (ch : List Nat) (os' : Os) : Prop :=
  ∃ t, PG X tg t ∧ ∀ S σ H ρ v d ρ' Q, Rel X.K S H os σ ρ → At X.K S v d → b d ρ = some ρ' → (∀ σ', Rel X.K S H os' σ' ρ' → ChOn ch σ σ' → (∀ a, Own os' σ' a → Own os σ a) → Q σ' H) → t v σ H Q
def VGs (X : Cx) (os : Os) (tgs : List Expr) (b : List D → Rho → Option Rho) (ch : List Nat) (os' : Os) : Prop :=
  ∃ t, PGs X tgs t ∧ ∀ S σ H ρ vs ds ρ' Q, Rel X.K S H os σ ρ → AtL X.K S vs ds → b ds ρ = some ρ' → (∀ σ', Rel X.K S H os' σ' ρ' → ChOn ch σ σ' → (∀ a, Own os' σ' a → Own os σ a) → Q σ' H) → t vs σ H Q
def gName (i : Nat) : D → Rho → Option Rho := fun d ρ => some (ρ.set i (some d))
def gNil : List D → Rho → Option Rho := fun ds ρ => match ds with
  | [] => some ρ
  | _ => none
def gCons (b : D → Rho → Option Rho) (c : List D → Rho → Option Rho) : List D → Rho → Option Rho := fun ds ρ => match ds with
  | d :: r => (b d ρ).bind fun ρ1 => c r ρ1
  | [] => none
def gTup (n : Nat) (c : List D → Rho → Option Rho) : D → Rho → Option Rho := fun d ρ => match d with
  | .tup ds => if ds.length = n then c ds ρ else none
  | .lst ds => if ds.length = n then c ds ρ else none
  | _ => none
theorem pg_or {e : Expr} {t1 t2 : TG} (h1 : PG X e t1) (h2 : PG X e t2) : PG X e (fun v σ H Q => t1 v σ H Q ∨ t2 v σ H Q) := ⟨fun pins s σ H v u Q I r q => q.elim (h1.run pins s σ H v u Q I r) (h2.run pins s σ H v u Q I r)⟩
variable {ch ch2 : List Nat}
theorem vg_name (i : Nat) {x : Str} (hN : X.N.Nodup) (hi : X.N[i]? = some x := by rfl) (hx : Loc X.env.scope x := by first | exact Or.inl rfl | exact Or.inr rfl)
    (hf : X.fn x = true ∨ X.env.scope.names.lookup x = some .local := by first | exact .inl rfl | exact .inr rfl | assumption) : VG X os (.Name x p) (gName i) [i] (os.set i false) :=
  ⟨_, pg_name hN hi hx hf, fun S σ H ρ v d ρ' Q rel hv hb hq => by
    cases hb
    exact hq _ (rel.set hv i) ⟨List.length_set, fun j hj => List.getElem?_set_ne fun z => hj (by simp [z])⟩ fun a q => own_set q⟩
theorem vgs_nil : VGs X os [] gNil [] os := ⟨_, pgs_nil, fun S σ H ρ vs ds ρ' Q rel hv hb hq => by
  cases hv with
  | nil => cases hb; exact ⟨rfl, hq σ rel ⟨rfl, fun _ _ => rfl⟩ fun _ q => q⟩
  | cons _ _ => cases hb⟩
theorem vgs_cons {tg : Expr} {tgs : List Expr} {b : D → Rho → Option Rho} {c : List D → Rho → Option Rho} (h1 : VG X os tg b ch os1) (h2 : VGs X os1 tgs c ch2 os2)
    (hs : (assignEach (tg :: tgs) X.env).map (·.2) = assign tg X.env :: (assignEach tgs X.env).map (·.2) := by rfl) : VGs X os (tg :: tgs) (gCons b c) (ch ++ ch2) os2 := by
  obtain ⟨t, pt, kt⟩ := h1
  obtain ⟨u, pu, ku⟩ := h2
  refine ⟨_, pgs_cons pt pu hs, fun S σ H ρ vs ds ρ' Q rel hv hb hq => ?_⟩
  cases hv with
  | nil => cases hb
  | @cons v vs d ds h r =>
    have hb : (b d ρ).bind (fun ρ1 => c ds ρ1) = some ρ' := hb
    cases e1 : b d ρ with
    | none => rw [e1] at hb; cases hb
    | some ρ1 =>
      rw [e1] at hb
      refine ⟨v, vs, rfl, kt S σ H ρ v d ρ1 _ rel h e1 fun σ1 rel1 f1 o1 => ?_⟩
      exact ku S σ1 H ρ1 vs ds ρ' _ rel1 r hb fun σ2 rel2 f2 o2 => hq σ2 rel2 ⟨f2.1.trans f1.1, fun i hi => (f2.2 i fun z => hi (List.mem_append_right _ z)).trans (f1.2 i fun z => hi (List.mem_append_left _ z))⟩ fun a q => o1 a (o2 a q)
theorem vg_tup {es : List Expr} {k : Nat} {c : List D → Rho → Option Rho} (h : VGs X os es c ch os1) (hc : X.calm = true := by rfl) (hn : (assignEach es X.env).length = es.length := by rfl) (hst : (assignEach es X.env).findIdx? (·.1) = none := by rfl) :
    VG X os (.Tuple es k p) (gTup es.length c) ch os1 := by
  obtain ⟨t, pt, kt⟩ := h
  refine ⟨_, pg_or (pg_tup hc pt hn hst) (pg_unl hc pt hn hst), fun S σ H ρ v d ρ' Q rel hv hb hq => ?_⟩
  cases hv with
  | @lst a vs ds hs z r =>
    have hb : (if ds.length = es.length then c ds ρ else none) = some ρ' := hb
    split at hb
    · rename_i hl
      exact .inr ⟨a, vs, rfl, .of (rel.sub _ _ hs), by rw [r.length, hl], kt S σ H ρ vs ds ρ' Q rel r hb hq⟩
    · cases hb
  | @tup a vs ds hs z r =>
    have hb : (if ds.length = es.length then c ds ρ else none) = some ρ' := hb
    split at hb
    · rename_i hl
      exact .inl ⟨a, vs, rfl, sqT_mono rel.sub hs, by rw [r.length, hl], kt S σ H ρ vs ds ρ' Q rel r hb hq⟩
    · cases hb
  | _ => cases hb
def sBind (b : D → Rho → Option Rho) (f : Rho → Out (D × Rho)) : Rho → Out Fl := fun ρ => (f ρ).bind fun p => match b p.1 p.2 with
  | some ρ' => .ok (.nx ρ')
  | none => .stuck
def sPar (i j : Nat) (g : Rho → Out (List D × Rho)) : Rho → Out Fl := fun ρ => (g ρ).bind fun p => match p.1 with
  | [a, b] => .ok (.nx ((p.2.set i (some a)).set j (some b)))
  | _ => .stuck
/-- a, b = c, d (two plain local names) -/
theorem vs_par (i j : Nat) {x y : Str} {a b : Expr} {px py pt pt2 : Pos} {kt k2} {g : Rho → Out (List D × Rho)} (ha : VA X W os [a, b] g os1) (hN : X.N.Nodup) (hc : X.calm = true := by rfl) (hi : X.N[i]? = some x := by rfl) (hj : X.N[j]? = some y := by rfl) (hij : i ≠ j := by decide)
    (hx : X.env.scope.names.lookup x = some .local := by rfl) (hy : X.env.scope.names.lookup y = some .local := by rfl) (hfi : L.fx.getD i false = false := by rfl) (hfj : L.fx.getD j false = false := by rfl)
    (hw : swappedStores [.Tuple [.Name x px, .Name y py] kt pt] (.Tuple [a, b] k2 pt2) X.env = pure (some [x, y]) := by rfl)
    (hs : swapsWithSole [.Tuple [.Name x px, .Name y py] kt pt] (.Tuple [a, b] k2 pt2) pos.line X.env = pure false := by rfl) :
    VS X W L os (.Assign [.Tuple [.Name x px, .Name y py] kt pt] (.Tuple [a, b] k2 pt2) pos) (sPar i j g) ((os1.set i false).set j false) := by
  obtain ⟨t, pa, ka⟩ := ha
  refine ⟨_, ps_par hc hN hi hj hij hx hy pa hw hs, fun S σ H ρ Ds rel P => ?_⟩
  refine ka S σ H ρ _ rel (PostS.seqE P fun ds ρ1 vs S1 H1 s1 r1 q1 P1 => ?_)
  obtain ⟨q1, l1⟩ := q1
  match ds, vs, q1, P1 with
  | [d1, d2], [v1, v2], .cons h1 (.cons h2 .nil), P1 =>
    refine ⟨v1, v2, rfl, P1 _ S1 H1 ⟨Ext.refl r1.sub, fun a q => .inl (own_set (own_set q))⟩ ((fix_set hfi).trans (fix_set hfj)) ((r1.set h1 i).set h2 j)⟩
end

/-! ### a def by its body -/
def m0 (ρ : Rho) (pm : Option Nat) : D := match pm with
  | none => .non
  | some k => (ρ.getD k none).getD .non
/-- n names; pm: the turned parameter -/
def runF (n : Nat) (pm : Option Nat) (g : Rho → Out Fl) : List D → Out (D × D) := fun ds => match g (ds.map some ++ List.replicate (n - ds.length) none) with
  | .ok (.nx ρ) => .ok (.non, m0 ρ pm)
  | .ok (.rt d ρ) => .ok (d, m0 ρ pm)
  | .exc c fs => .exc c fs
  | _ => .stuck
theorem rel_start {K : PySem.W.Frag} {S H : Hp} {pm : Option Nat} {vs : List V} {ds : List D} {N : List Str} {os : Os} (r : Rel K S H (osP pm) (vs.map some) (ds.map some)) (ho : ∀ i, os.getD i false = (osP pm).getD i false) : Rel K S H os (start N vs) (ds.map some ++ List.replicate (N.length - ds.length) none) := by
  have hl : vs.length = ds.length := by simpa using r.len
  have cut : ∀ {α : Type} {l : List (Option α)} {m i : Nat} {x : Option α}, (l ++ List.replicate m none)[i]? = some x → (l[i]? = some x) ∨ (l.length ≤ i ∧ x = none) := fun {α l m i x} h => by
    by_cases hi : i < l.length
    · rw [List.getElem?_append_left hi] at h; exact .inl h
    · rw [List.getElem?_append_right (by omega), List.getElem?_replicate] at h
      split at h
      · cases h; exact .inr ⟨by omega, rfl⟩
      · cases h
  refine ⟨r.sub, ?_, fun i x y e1 e2 => ?_, fun i j a h1 h2 e1 e2 => ?_⟩
  · unfold L2.start; rw [List.length_append, List.length_append, List.length_map, List.length_map, List.length_replicate, List.length_replicate, hl]
  · unfold L2.start at e1
    rw [ho]
    rcases cut e1 with q1 | ⟨q1, rfl⟩
    · rcases cut e2 with q2 | ⟨q2, rfl⟩
      · exact r.slot i x y q1 q2
      · have := (List.getElem?_eq_some_iff.mp q1).1
        rw [List.length_map] at this q2
        omega
    · rcases cut e2 with q2 | ⟨q2, rfl⟩
      · have := (List.getElem?_eq_some_iff.mp q2).1
        rw [List.length_map] at this q1
        omega
      · cases (osP pm).getD i false <;> trivial
  · unfold L2.start at e1 e2
    rw [ho] at h1 h2
    rcases cut e1 with q1 | ⟨_, q1⟩
    · rcases cut e2 with q2 | ⟨_, q2⟩
      · exact r.sep i j a h1 h2 q1 q2
      · cases q2
    · cases q1
theorem own_start {pm : Option Nat} {vs : List V} {N : List Str} {os : Os} {a : Addr} (ho : ∀ i, os.getD i false = (osP pm).getD i false) (h : Own os (start N vs) a) : Own (osP pm) (vs.map some) a := by
  obtain ⟨i, h1, h2⟩ := h
  rw [ho] at h1
  refine ⟨i, h1, ?_⟩
  unfold L2.start at h2
  by_cases hi : i < (vs.map some).length
  · rw [List.getElem?_append_left hi] at h2; exact h2
  · rw [List.getElem?_append_right (by omega), List.getElem?_replicate] at h2
    split at h2 <;> cases h2
section
variable {P : Program} {w : World} {K : PySem.W.Frag} {mg : Str → Option Value} {base : Heap}
/-- THE RULE: a def's promise by its body's judgement -/
theorem fn_by {x qual : Str} {st : Stmt} {f : Addr} {fd : FuncData} {N ps : List Str} {k n : Nat} {pm : Option Nat} {r : Bool} {g : Rho → Out Fl} {os osN : Os} (F : Fun K x qual st f fd) (Sc : FnScope N ps (defScope st)) (hn : n = ps.length) (hr0 : r = true → osN = osN)
    (ho : ∀ i, os.getD i false = (osP pm).getD i false) (hNl : Le (osP pm) osN) (hnr : r = false ∨ ∀ ρ ρ', g ρ ≠ .ok (.nx ρ'))
    (body : ∀ (cdv : Value) (A : Around) (outer : List Env) (s : Shared) (H : Hp) (E : XK), Room k (A.deeper (envOfC qual (defScope st) s.heap.objs.size f cdv)) →
      ∀ (X : Cx), X = cxOf (L2.CX P w) P w K mg base N qual (defScope st) f cdv A outer s H E → Takes X (fun cls d _ H' => E cls d H') → PassesOwn (model X.prog X.w) X.A X.env X.xe →
      VSs X (fun cls d _ H' => E cls d H') ⟨osP pm, [], [], r⟩ os (defBody st) g osN) :
    FnOk P w K mg base (L2.CX P w) (k + 1) f fd ps (spec K mg n pm r (runF N.length pm g)) := by
  refine F.okX Sc (fun vs H Q E h => by rw [h.1, hn]) (fun cdv A outer s H vs Q E hr h => ?_)
  obtain ⟨hl, S, ds, rel, h⟩ := h
  obtain ⟨t, pt, kt⟩ := body cdv A outer s H E hr _ rfl (takes_of rfl rfl rfl rfl) (passes_of rfl)
  refine ⟨t, pt, kt S _ H _ _ (rel_start (N := N) rel ho) ?_⟩
  have hvl : vs.length = ds.length := by simpa using rel.len
  unfold runF at h
  cases e : g (ds.map some ++ List.replicate (N.length - ds.length) none) with
  | exc c fs =>
    rw [e] at h
    exact fun σ' S' H' cls dd x q => h S' H' cls dd (x.weak fun a q => own_start ho q) q
  | stuck => rw [e] at h; exact h.elim
  | ok z =>
    rw [e] at h
    -- what the turned parameter holds at the end
    have hm : ∀ (ρ : Rho) (σ : Sg) (S' H' : Hp), (∀ i u, (osP pm).getD i false = true → σ[i]? = some (some u) → ∃ d', ρ[i]? = some (some d') ∧ OwnAt K S' H' u d') → FixOn (osP pm) (start N vs) σ → ∀ k u, pm = some k → vs[k]? = some u → OwnAt K S' H' u (m0 ρ pm) := fun ρ σ S' H' hk hf k u ek ev => by
      subst ek
      have hs : (start N vs)[k]? = some (some u) := by
        unfold L2.start
        rw [List.getElem?_append_left (by rw [List.length_map]; exact (List.getElem?_eq_some_iff.mp ev).1), List.getElem?_map, ev]
        rfl
      obtain ⟨d', e1, q⟩ := hk k u (osP_get.mpr rfl) (by rw [hf.2 k (osP_get.mpr rfl)]; exact hs)
      have e2 : m0 ρ (some k) = d' := by
        show (ρ.getD k none).getD .non = d'
        rw [List.getD, e1]; rfl
      rw [e2]; exact q
    cases z with
    | bk ρ => exact h.elim
    | ct ρ => exact h.elim
    | nx ρ =>
      rcases hnr with hnr | hnr
      · subst hnr
        exact fun σ' S' H' s' f' r' => h .non S' H' (s'.ext.weak fun a q => own_start ho q) .non (hm ρ σ' S' H' (fix_end (X := cxOf (L2.CX P w) P w K mg base N qual (defScope st) f cdv A outer s H E) r' hNl) f')
      · exact (hnr _ _ e).elim
    | rt d ρ =>
      refine fun v S' H' x hv hk => h v S' H' (x.weak fun a q => own_start ho q) ?_ (hm ρ _ S' H' hk FixOn.refl)
      unfold RetAt at hv
      unfold RV
      cases r with
      | false => exact hv
      | true =>
        refine ⟨hv.1, fun a ea => ?_⟩
        rcases hv.2.1 a ea with q | ⟨i, h1, h2⟩
        · exact q
        · exact (hv.2.2 i (by rw [ho] at h1; exact h1) (by rw [h2, ea])).elim
end
end SW

set_option maxRecDepth 100000
/-! SW5: what loops walk (VI), for, while, list comprehensions. -/
namespace SW
open PySem PySem.Spec PyProof.Rows L2

/-- the walk J yields these data, one a turn, whatever is laid beside -/
def ItAt (K : PySem.W.Frag) (S0 : Hp) (J : It) (items : List D) : Prop := items.length ≤ sizeLine ∧ ∀ i S H, Same S0 S → Same S H →
  (items.length ≤ i → J.stop i H) ∧ ∀ d, items[i]? = some d → J.go i H ∧ ∀ x H', J.yld i H x H' → ∃ S', Ext (fun _ => False) S H S' H' ∧ At K S' x d
def RI (K : PySem.W.Frag) : RR (List D) It := fun _ S' _ J items => ItAt K S' J items
theorem RI.ok {K : PySem.W.Frag} : (RI K).Ok := fun _ _ _ _ _ _ _ q => q
def VI (X : Cx) (W : WX) (os : Os) (tg iter : Expr) (f : Rho → Out (List D × Rho)) (os' : Os) : Prop :=
  ∃ wi, PI X tg iter wi ∧ ∀ S σ H ρ R, Rel X.K S H os σ ρ → Post X W S H os σ os' (RI X.K) R (f ρ) → wi σ H R

theorem pi_or {X : Cx} {tg iter : Expr} {w1 w2 : TI} (h1 : PI X tg iter w1) (h2 : PI X tg iter w2) : PI X tg iter (fun σ H R => w1 σ H R ∨ w2 σ H R) :=
  ⟨fun pins s σ H R I h => h.elim (h1.run pins s σ H R I) (h2.run pins s σ H R I)⟩

def itemsOf : D → Option (List D)
  | .lst ds => some ds
  | .tup ds => some ds
  | .scr ns => some (ns.map .int)
  | _ => none
def iSeq (f : Rho → Out (D × Rho)) : Rho → Out (List D × Rho) := fun ρ => (f ρ).bind fun p => (Out.of (itemsOf p.1)).bind fun c => .ok (c, p.2)

section
variable {K : PySem.W.Frag} {S S1 H : Hp}
theorem itAt_list {a : Addr} {vs : List V} {ds : List D} (h : SqL K S a vs) (z : ds.length ≤ sizeLine) (r : AtL K S vs ds) : ItAt K S (Itl K a) ds := ⟨z, fun i S' H' s1 s2 => by
  have hs : SqL K H' a vs := s2.seq (s1.seq h)
  refine ⟨fun hi => ⟨vs, hs, by rw [r.length]; exact hi⟩, fun d hd => ?_⟩
  obtain ⟨v, ev, hat⟩ := r.get hd
  refine ⟨⟨vs, v, hs, ev⟩, fun x H2 y => ?_⟩
  obtain ⟨rfl, fv⟩ := y
  have e := (fv vs hs).symm.trans ev
  cases e
  exact ⟨S', Ext.refl s2, hat.mono s1⟩⟩
theorem itAt_tup {a : Addr} {vs : List V} {ds : List D} (h : SqT K S a vs) (z : ds.length ≤ sizeLine) (r : AtL K S vs ds) : ItAt K S (Itt K a) ds := ⟨z, fun i S' H' s1 s2 => by
  have hs : SqT K H' a vs := sqT_mono s2 (sqT_mono s1 h)
  refine ⟨fun hi => ⟨vs, hs, by rw [r.length]; exact hi⟩, fun d hd => ?_⟩
  obtain ⟨v, ev, hat⟩ := r.get hd
  refine ⟨⟨vs, v, hs, ev⟩, fun x H2 y => ?_⟩
  obtain ⟨rfl, fv⟩ := y
  have e := (fv vs hs).symm.trans ev
  cases e
  exact ⟨S', Ext.refl s2, hat.mono s1⟩⟩
end
section
variable {X : Cx} {W : WX} {L : Lc} {os os1 os2 os3 osN : Os} {e e1 e2 : Expr} {f f1 f2 : Rho → Out (D × Rho)} {pos p : Pos} {st : Stmt} {sts rest : List Stmt} {tg iter : Expr}

/-- over a list or a tuple that stands -/
theorem vi_seq (he : VE X W os e f os1 false) : VI X W os tg e (iSeq f) os1 := by
  obtain ⟨t, pt, kt⟩ := he
  refine ⟨_, pi_or (pi_list pt) (pi_tup pt), fun S σ H ρ R rel P => ?_⟩
  cases hf : f ρ with
  | stuck => unfold iSeq at P; rw [hf] at P; exact P.elim
  | exc c fs =>
    refine .inl (kt S σ H ρ _ rel ?_)
    unfold iSeq at P
    rw [hf] at P ⊢
    exact P
  | ok z =>
    obtain ⟨d, ρ1⟩ := z
    unfold iSeq at P
    rw [hf] at P
    have P : Post X W S H os σ os1 (RI X.K) R ((Out.of (itemsOf d)).bind fun c => Out.ok (c, ρ1)) := P
    cases d with
    | lst ds =>
      refine .inl (kt S σ H ρ _ rel ?_)
      rw [hf]
      intro v S1 H1 st1 rel1 q1
      cases (show At X.K S1 v (.lst ds) from q1) with
      | lst hs z r => exact ⟨_, rfl, ⟨_, .of (rel1.sub _ _ hs)⟩, P _ S1 H1 st1 rel1 (itAt_list (.of hs) z r)⟩
    | scr ns =>
      refine .inl (kt S σ H ρ _ rel ?_)
      rw [hf]
      intro v S1 H1 st1 rel1 q1
      cases (show At X.K S1 v (.scr ns) from q1) with
      | scr hs z => exact ⟨_, rfl, ⟨_, rel1.sub.seq hs⟩, P _ S1 H1 st1 rel1 (itAt_list hs (by rw [List.length_map]; exact z) (AtL.ints ns))⟩
    | tup ds =>
      refine .inr (kt S σ H ρ _ rel ?_)
      rw [hf]
      intro v S1 H1 st1 rel1 q1
      cases (show At X.K S1 v (.tup ds) from q1) with
      | tup hs z r => exact ⟨_, rfl, ⟨_, sqT_mono rel1.sub hs⟩, P _ S1 H1 st1 rel1 (itAt_tup hs z r)⟩
    | _ => exact P.elim

/-! ### ranges -/
def lim62 (i : Int) : Bool := decide (i.natAbs < 4611686018427387904)
def rngI (lo : Int) (n : Nat) : List D := (List.range n).map fun i => .int (lo + (i : Nat))
def rangeD : List D → Option (List D)
  | [.int j] => if j.toNat ≤ 16777216 ∧ j.natAbs ≤ 4611686018427387904 then some (rngI 0 j.toNat) else none
  | [.int i, .int j] => if (j - i).toNat ≤ 16777216 ∧ lim62 i = true ∧ lim62 j = true then some (rngI i (j - i).toNat) else none
  | [.int i, .int j, .int c] => if c = -1 ∧ (i - j).toNat ≤ 16777216 ∧ lim62 i = true ∧ lim62 j = true then some ((List.range (i - j).toNat).map fun k => .int (i + (k : Nat) * (-1))) else none
  | _ => none
def iRange (g : Rho → Out (List D × Rho)) : Rho → Out (List D × Rho) := fun ρ => (g ρ).bind fun p => (Out.of (rangeD p.1)).bind fun c => .ok (c, p.2)
theorem sizeLine_is : sizeLine = 16777216 := by decide
theorem itAt_rng {K : PySem.W.Frag} {S : Hp} {lo : Int} {n : Nat} (hn : n ≤ sizeLine) : ItAt K S (Itr lo n) (rngI lo n) := by
  have hl : (rngI lo n).length = n := by unfold rngI; rw [List.length_map, List.length_range]
  refine ⟨by rw [hl]; exact hn, fun i S' H' s1 s2 => ⟨fun hi => by rw [hl] at hi; exact hi, fun d hd => ?_⟩⟩
  have hi : i < n := by rw [← hl]; exact (List.getElem?_eq_some_iff.mp hd).1
  refine ⟨hi, fun x H2 y => ?_⟩
  obtain ⟨rfl, rfl⟩ := y
  unfold rngI at hd
  rw [List.getElem?_map, List.getElem?_range hi] at hd
  cases hd
  exact ⟨S', Ext.refl s2, .int _⟩
theorem lim62_iff {i : Int} (h : lim62 i = true) : -(2 ^ 62) ≤ i ∧ i < 2 ^ 62 := by
  unfold lim62 at h
  have h1 := of_decide_eq_true h
  exact ⟨by omega, by omega⟩
theorem vi_range1 {a : Expr} {g : Rho → Out (List D × Rho)} (ha : VA X W os [a] g os1) (hm : X.mg "range" = none) (hg : Gl X "range" := by rfl) (hs : starEach [a] X.env = [(false, eval a X.env)] := by rfl) : VI X W os tg (.Call (.Name "range" p) [a] [] pos) (iRange g) os1 := by
  obtain ⟨t, pt, kt⟩ := ha
  refine ⟨_, pi_range1 hg hm pt hs, fun S σ H ρ R rel P => ?_⟩
  refine kt S σ H ρ _ rel (Post.seq P (fun z => z) (fun c fs p => p) fun ds ρ1 vs S1 H1 st1 rel1 q1 P1 => ?_)
  obtain ⟨q1, l1⟩ := q1
  match ds, vs, q1, P1 with
  | [d1], [v1], .cons h1 .nil, P1 =>
    have P1 : Post X W S H os σ os1 (RI X.K) R ((Out.of (rangeD [d1])).bind fun c => Out.ok (c, ρ1)) := P1
    cases h1 with
    | int j =>
      have P1 : Post X W S H os σ os1 (RI X.K) R ((Out.of (if j.toNat ≤ 16777216 ∧ j.natAbs ≤ 4611686018427387904 then some (rngI 0 j.toNat) else none)).bind fun c => Out.ok (c, ρ1)) := P1
      split at P1
      · rename_i hj
        refine ⟨j, rfl, by omega, by omega, (P1.step RI.ok st1).fin (os' := os1) rel1 (itAt_rng ?_)⟩
        rw [sizeLine_is]
        omega
      · exact P1.elim
    | _ => exact P1.elim
theorem vi_range2 {a b : Expr} {g : Rho → Out (List D × Rho)} (ha : VA X W os [a, b] g os1) (hm : X.mg "range" = none) (hg : Gl X "range" := by rfl) (hs : starEach [a, b] X.env = [(false, eval a X.env), (false, eval b X.env)] := by rfl) (hs2 : starEach [b] X.env = [(false, eval b X.env)] := by rfl) :
    VI X W os tg (.Call (.Name "range" p) [a, b] [] pos) (iRange g) os1 := by
  obtain ⟨t, pt, kt⟩ := ha
  refine ⟨_, pi_range2 hg hm pt hs hs2, fun S σ H ρ R rel P => ?_⟩
  refine kt S σ H ρ _ rel (Post.seq P (fun z => z) (fun c fs p => p) fun ds ρ1 vs S1 H1 st1 rel1 q1 P1 => ?_)
  obtain ⟨q1, l1⟩ := q1
  match ds, vs, q1, P1 with
  | [d1, d2], [v1, v2], .cons h1 (.cons h2 .nil), P1 =>
    have P1 : Post X W S H os σ os1 (RI X.K) R ((Out.of (rangeD [d1, d2])).bind fun c => Out.ok (c, ρ1)) := P1
    cases h1 with
    | int i =>
      cases h2 with
      | int j =>
        have P1 : Post X W S H os σ os1 (RI X.K) R ((Out.of (if (j - i).toNat ≤ 16777216 ∧ lim62 i = true ∧ lim62 j = true then some (rngI i (j - i).toNat) else none)).bind fun c => Out.ok (c, ρ1)) := P1
        split at P1
        · rename_i hj
          have hi := lim62_iff hj.2.1
          have hj2 := lim62_iff hj.2.2
          refine ⟨i, j, rfl, ⟨hi.1, hi.2, hj2.1, hj2.2⟩, (P1.step RI.ok st1).fin (os' := os1) rel1 (itAt_rng ?_)⟩
          rw [sizeLine_is]
          omega
        · exact P1.elim
      | _ => exact P1.elim
    | _ => exact P1.elim
/-! ### enumerate, zip of lists -/
def enumD (ds : List D) : List D := (List.range ds.length).zipWith (fun i d => .tup [.int (i : Nat), d]) ds
def iEnum1 : List D → Option (List D)
  | [.lst ds] => some (enumD ds)
  | _ => none
def iArg (h : List D → Option (List D)) (g : Rho → Out (List D × Rho)) : Rho → Out (List D × Rho) := fun ρ => (g ρ).bind fun p => (Out.of (h p.1)).bind fun c => .ok (c, p.2)
theorem two_ok : 2 ≤ sizeLine := by decide
theorem vi_enum {elts : List Expr} {kk : Nat} {tpos : Pos} {g : Rho → Out (List D × Rho)} (ha : VA X W os [e] g os1) (hm : X.mg "enumerate" = none) (hg : Gl X "enumerate" := by rfl) (hs : starEach [e] X.env = [(false, eval e X.env)] := by rfl) :
    VI X W os (.Tuple elts kk tpos) (.Call (.Name "enumerate" p) [e] [] pos) (iArg iEnum1 g) os1 := by
  obtain ⟨t, pt, kt⟩ := ha
  refine ⟨_, pi_enum hg hm pt hs, fun S σ H ρ R rel P => ?_⟩
  refine kt S σ H ρ _ rel (Post.seq P (fun z => z) (fun c fs p => p) fun ds ρ1 vs S1 H1 st1 rel1 q1 P1 => ?_)
  obtain ⟨q1, l1⟩ := q1
  match ds, vs, q1, P1 with
  | [d1], [v1], .cons h1 .nil, P1 =>
    have P1 : Post X W S H os σ os1 (RI X.K) R ((Out.of (iEnum1 [d1])).bind fun c => Out.ok (c, ρ1)) := P1
    cases h1 with
    | @lst a vs ds hs z r =>
      have hl : (enumD ds).length = ds.length := by unfold enumD; rw [List.length_zipWith, List.length_range, Nat.min_self]
      refine ⟨a, vs, rfl, .of (rel1.sub _ _ hs), (P1.step RI.ok st1).fin (os' := os1) rel1 ⟨by rw [hl]; exact z, fun i S' H' s1 s2 => ?_⟩⟩
      have hs' : SqL X.K H' a vs := .of (s2 _ _ (s1 _ _ hs))
      refine ⟨fun hi => ⟨vs, hs', by rw [r.length, ← hl]; exact hi⟩, fun d hd => ?_⟩
      have hi : i < ds.length := by rw [← hl]; exact (List.getElem?_eq_some_iff.mp hd).1
      obtain ⟨v, ev, hat⟩ := r.get (List.getElem?_eq_getElem hi)
      refine ⟨⟨vs, v, hs', ev⟩, fun x H2 y => ?_⟩
      obtain ⟨T, x', rfl, nT, rfl, fx⟩ := y
      have e := (fx vs hs').symm.trans ev
      cases e
      have xx := Ext.new (O := fun _ => False) (o := .tup [.int (i : Nat), v]) s2 nT
      refine ⟨_, xx, ?_⟩
      have ed : d = .tup [.int (i : Nat), ds[i]] := by
        unfold enumD at hd
        rw [List.getElem?_zipWith, List.getElem?_range hi, List.getElem?_eq_getElem hi] at hd
        exact (Option.some.inj hd).symm
      rw [ed]
      exact .tup (.inl (.inl upd_same)) two_ok (.cons (.int _) (.cons ((hat.mono s1).mono xx.s) .nil))
    | _ => exact P1.elim
/-! ### for -/
def forL (b : D → Rho → Option Rho) (g : Rho → Out Fl) : List D → Rho → Out Fl
  | [], ρ => .ok (.nx ρ)
  | x :: xs, ρ => match b x ρ with
    | none => .stuck
    | some ρ1 => (g ρ1).bind fun y => match y with
      | .nx ρ2 => forL b g xs ρ2
      | .ct ρ2 => forL b g xs ρ2
      | .bk ρ2 => .ok (.nx ρ2)
      | .rt d ρ2 => .ok (.rt d ρ2)
def sFor (f : Rho → Out (List D × Rho)) (b : D → Rho → Option Rho) (g : Rho → Out Fl) : Rho → Out Fl := fun ρ => (f ρ).bind fun p => forL b g p.1 p.2
theorem vs_for {body : List Stmt} {fi : Rho → Out (List D × Rho)} {b : D → Rho → Option Rho} {g : Rho → Out Fl} {ch : List Nat} (hp : PassesOwn (model X.prog X.w) X.A X.env X.xe) (hi : VI X W os tg iter fi os1) (hg : VG X os1 tg b ch os2)
    (hb : VSs X W ⟨L.fx, os1, os1, L.r⟩ os2 body g os1) (hfx : ch.all (fun i => !L.fx.getD i false) = true := by rfl) (hc : X.calm = true := by rfl) (hs : ∀ x, foldedSetIterable iter X.env x = pure x := by intro _; rfl) :
    VS X W L os (.For tg iter body [] pos) (sFor fi b g) os1 := by
  obtain ⟨wi, pi, ki⟩ := hi
  obtain ⟨tg', pg, kg⟩ := hg
  obtain ⟨tb, pb, kb⟩ := hb
  refine ⟨_, ps_for hp hc pi pg pb hs, fun S σ H ρ Ds rel P => ?_⟩
  refine ki S σ H ρ _ rel (PostS.seqE P fun items ρ1 J S1 H1 st1 rel1 q1 P1 => ?_)
  obtain ⟨hz, q1⟩ := q1
  refine ⟨fun i m σ' H' => i + m = items.length ∧ ∃ S' ρ', Same S1 S' ∧ Rel X.K S' H' os1 σ' ρ' ∧ PostS X W L S' H' os1 σ' os1 Ds (forL b g (items.drop i) ρ'), ⟨items.length, by omega, S1, ρ1, Same.refl _, rel1, P1⟩, ?_⟩
  rintro i m σ' H' ⟨hm, S', ρ', s1, rel', P'⟩
  obtain ⟨hstop, hgo⟩ := q1 i S' H' s1 rel'.sub
  by_cases hlt : i < items.length
  · have ed := List.getElem?_eq_getElem hlt
    obtain ⟨go, hy⟩ := hgo _ ed
    rw [List.drop_eq_getElem_cons hlt] at P'
    unfold forL at P'
    refine .inr ⟨go, fun σ'' H'' => ∃ S'' ρ'', Same S1 S'' ∧ Rel X.K S'' H'' os1 σ'' ρ'' ∧ PostS X W L S'' H'' os1 σ'' os1 Ds (forL b g (items.drop (i + 1)) ρ''), fun σ'' H'' ⟨S'', ρ'', a, b, c⟩ => ⟨m - 1, by omega, by omega, S'', ρ'', a, b, c⟩, fun x H2 y => ?_⟩
    obtain ⟨S2, x2, hat⟩ := hy x H2 y
    have rel2 := rel'.ext0 x2
    cases eb : b items[i] ρ' with
    | none => rw [eb] at P'; exact P'.elim
    | some ρ2 =>
      rw [eb] at P'
      refine kg S2 σ' H2 ρ' x _ ρ2 _ rel2 hat eb fun σ3 rel3 f3 o3 => ?_
      have st3 : Stp os1 σ' S' H' os2 σ3 S2 H2 := ⟨x2.weak fun _ z => z.elim, fun a q => .inl (o3 a q)⟩
      have fx3 := f3.fix hfx
      refine kb S2 σ3 H2 ρ2 _ rel3 ?_
      have P' : PostS X W L S2 H2 os2 σ3 os1 Ds ((g ρ2).bind fun y => match y with
        | .nx ρ2 => forL b g (items.drop (i + 1)) ρ2
        | .ct ρ2 => forL b g (items.drop (i + 1)) ρ2
        | .bk ρ2 => .ok (.nx ρ2)
        | .rt d ρ2 => .ok (.rt d ρ2)) := PostS.step P' st3 fx3
      cases hgr : g ρ2 with
      | stuck => rw [hgr] at P'; exact P'
      | exc c fs => rw [hgr] at P'; exact P'
      | ok z =>
        rw [hgr] at P'
        cases z with
        | nx ρ4 => exact fun σ4 S4 H4 s4 f4 r4 => ⟨S4, ρ4, s1.trans (x2.s.trans s4.ext.s), r4, PostS.step P' s4 f4⟩
        | ct ρ4 => exact fun σ4 S4 H4 s4 f4 r4 => ⟨S4, ρ4, s1.trans (x2.s.trans s4.ext.s), r4, PostS.step P' s4 f4⟩
        | bk ρ4 => exact P'
        | rt d ρ4 => exact P'
  · refine .inl ⟨hstop (by omega), ?_⟩
    rw [List.drop_of_length_le (by omega)] at P'
    exact P'.fin rel'

/-! ### while -/
def whileL (c : Rho → Out (Bool × Rho)) (g : Rho → Out Fl) : Nat → Rho → Out Fl
  | 0, _ => .stuck
  | n + 1, ρ => (c ρ).bind fun p => if p.1 = true then (g p.2).bind fun y => (match y with
      | .nx ρ2 => whileL c g n ρ2
      | .ct ρ2 => whileL c g n ρ2
      | .bk ρ2 => .ok (.nx ρ2)
      | .rt d ρ2 => .ok (.rt d ρ2)) else .ok (.nx p.2)
def sWhile (fuel : Rho → Nat) (c : Rho → Out (Bool × Rho)) (g : Rho → Out Fl) : Rho → Out Fl := fun ρ => whileL c g (fuel ρ) ρ
theorem vs_while {c : Expr} {body : List Stmt} {gc : Rho → Out (Bool × Rho)} {g : Rho → Out Fl} {fuel : Rho → Nat} (hp : PassesOwn (model X.prog X.w) X.A X.env X.xe) (hc : VT X W os c gc os) (hb : VSs X W ⟨L.fx, os, os, L.r⟩ os body g os) :
    VS X W L os (.While c body [] pos) (sWhile fuel gc g) os := by
  obtain ⟨tc, pc, kc⟩ := hc
  obtain ⟨tb, pb, kb⟩ := hb
  refine ⟨_, ps_while hp pc pb, fun S σ H ρ Ds rel P => ?_⟩
  refine ⟨fun m σ' H' => ∃ S' ρ', Rel X.K S' H' os σ' ρ' ∧ PostS X W L S' H' os σ' os Ds (whileL gc g m ρ'), ⟨fuel ρ, S, ρ, rel, P⟩, ?_⟩
  rintro m σ' H' ⟨S', ρ', rel', P'⟩
  cases m with
  | zero => exact P'.elim
  | succ m =>
    unfold whileL at P'
    refine kc S' σ' H' ρ' _ rel' (PostS.seqE P' fun d ρ1 v S1 H1 s1 r1 q1 P1 => ?_)
    cases q1
    cases d with
    | false => exact P1.fin r1
    | true =>
      refine ⟨fun σ'' H'' => ∃ S'' ρ'', Rel X.K S'' H'' os σ'' ρ'' ∧ PostS X W L S'' H'' os σ'' os Ds (whileL gc g m ρ''), fun σ'' H'' h => ⟨m, Nat.lt_succ_self m, h⟩, ?_⟩
      refine kb S1 σ' H1 ρ1 _ r1 ?_
      have P1 : PostS X W L S1 H1 os σ' os Ds ((g ρ1).bind fun y => (match y with
        | .nx ρ2 => whileL gc g m ρ2
        | .ct ρ2 => whileL gc g m ρ2
        | .bk ρ2 => .ok (.nx ρ2)
        | .rt d ρ2 => .ok (.rt d ρ2))) := P1
      cases hgr : g ρ1 with
      | stuck => rw [hgr] at P1; exact P1
      | exc c fs => rw [hgr] at P1; exact P1
      | ok z =>
        rw [hgr] at P1
        cases z with
        | nx ρ4 => exact fun σ4 S4 H4 s4 f4 r4 => ⟨S4, ρ4, r4, PostS.step P1 s4 f4⟩
        | ct ρ4 => exact fun σ4 S4 H4 s4 f4 r4 => ⟨S4, ρ4, r4, PostS.step P1 s4 f4⟩
        | bk ρ4 => exact P1
        | rt d ρ4 => exact P1
end
end SW

set_option maxRecDepth 100000
/-! SW6: list comprehensions of one clause; freezing behind a statement. -/
namespace SW
open PySem PySem.Spec PyProof.Rows L2

def wipeR (ρ : Rho) : List Nat → Rho
  | [] => ρ
  | v :: vs => (wipeR ρ vs).set v none
def backR : List Nat → Rho → Rho → Rho
  | [], _, ρ3 => ρ3
  | v :: vs, ρ, ρ3 => (backR vs ρ ρ3).set v (ρ.getD v none)
theorem wipeR_len (ρ : Rho) : ∀ vs, (wipeR ρ vs).length = ρ.length
  | [] => rfl
  | v :: vs => by unfold wipeR; rw [List.length_set, wipeR_len ρ vs]
theorem backR_len (ρ ρ3 : Rho) : ∀ vs, (backR vs ρ ρ3).length = ρ3.length
  | [] => rfl
  | v :: vs => by unfold backR; rw [List.length_set, backR_len ρ ρ3 vs]
theorem wipe_in {σ : Sg} {i : Nat} : ∀ {vs : List Nat}, i ∈ vs → i < σ.length → (wipe σ vs)[i]? = some none
  | v :: vs, h, hl => by
    unfold wipe
    by_cases e : v = i
    · subst e; rw [List.getElem?_set_self (by rw [wipe_length]; exact hl)]
    · rw [List.getElem?_set_ne e]
      exact wipe_in (by simpa [e, Ne.symm e] using (List.mem_cons.mp h).resolve_left (Ne.symm e)) hl
theorem wipe_out {σ : Sg} {i : Nat} : ∀ {vs : List Nat}, i ∉ vs → (wipe σ vs)[i]? = σ[i]?
  | [], _ => rfl
  | v :: vs, h => by
    unfold wipe
    rw [List.getElem?_set_ne (fun z => h (by simp [z]))]
    exact wipe_out fun z => h (List.mem_cons_of_mem _ z)
theorem wipeR_in {ρ : Rho} {i : Nat} : ∀ {vs : List Nat}, i ∈ vs → i < ρ.length → (wipeR ρ vs)[i]? = some none
  | v :: vs, h, hl => by
    unfold wipeR
    by_cases e : v = i
    · subst e; rw [List.getElem?_set_self (by rw [wipeR_len]; exact hl)]
    · rw [List.getElem?_set_ne e]
      exact wipeR_in ((List.mem_cons.mp h).resolve_left (Ne.symm e)) hl
theorem wipeR_out {ρ : Rho} {i : Nat} : ∀ {vs : List Nat}, i ∉ vs → (wipeR ρ vs)[i]? = ρ[i]?
  | [], _ => rfl
  | v :: vs, h => by
    unfold wipeR
    rw [List.getElem?_set_ne (fun z => h (by simp [z]))]
    exact wipeR_out fun z => h (List.mem_cons_of_mem _ z)
theorem backR_in {ρ ρ3 : Rho} {i : Nat} : ∀ {vs : List Nat}, i ∈ vs → i < ρ3.length → (backR vs ρ ρ3)[i]? = some (ρ.getD i none)
  | v :: vs, h, hl => by
    unfold backR
    by_cases e : v = i
    · subst e; rw [List.getElem?_set_self (by rw [backR_len]; exact hl)]
    · rw [List.getElem?_set_ne e]
      exact backR_in ((List.mem_cons.mp h).resolve_left (Ne.symm e)) hl
theorem backR_out {ρ ρ3 : Rho} {i : Nat} : ∀ {vs : List Nat}, i ∉ vs → (backR vs ρ ρ3)[i]? = ρ3[i]?
  | [], _ => rfl
  | v :: vs, h => by
    unfold backR
    rw [List.getElem?_set_ne (fun z => h (by simp [z]))]
    exact backR_out fun z => h (List.mem_cons_of_mem _ z)
theorem wipe_eq {σ σ2 : Sg} {vs ch : List Nat} (h : ChOn ch (wipe σ vs) σ2) (hc : ∀ i ∈ ch, i ∈ vs) : wipe σ2 vs = wipe σ vs := by
  have hl : σ2.length = σ.length := by rw [h.1, wipe_length]
  refine List.ext_getElem? fun i => ?_
  by_cases hi : i ∈ vs
  · by_cases hlt : i < σ.length
    · rw [wipe_in hi hlt, wipe_in hi (by rw [hl]; exact hlt)]
    · rw [List.getElem?_eq_none (by rw [wipe_length]; omega), List.getElem?_eq_none (by rw [wipe_length]; omega)]
  · rw [wipe_out hi, h.2 i fun z => hi (hc i z)]

section
variable {K : PySem.W.Frag} {S S3 H H3 : Hp} {os : Os} {σ σ2 : Sg} {ρ ρ3 : Rho} {vs : List Nat}
theorem all_false {os : Os} (h : vs.all (fun v => !os.getD v false) = true) {i : Nat} (hi : i ∈ vs) : os.getD i false = false := by
  have q := List.all_eq_true.mp h i hi
  simpa using q
theorem Rel.wipe (r : Rel K S H os σ ρ) (hv : vs.all (fun v => !os.getD v false) = true) : Rel K S H os (L2.wipe σ vs) (wipeR ρ vs) where
  sub := r.sub
  len := by rw [wipe_length, wipeR_len]; exact r.len
  slot := fun i x d e1 e2 => by
    by_cases hi : i ∈ vs
    · have hl : i < σ.length := by
        have := (List.getElem?_eq_some_iff.mp e1).1
        rwa [wipe_length] at this
      rw [wipe_in hi hl] at e1
      rw [wipeR_in hi (by rw [← r.len]; exact hl)] at e2
      cases e1; cases e2
      cases os.getD i false <;> trivial
    · rw [wipe_out hi] at e1
      rw [wipeR_out hi] at e2
      exact r.slot i x d e1 e2
  sep := fun i j a h1 h2 e1 e2 => by
    have hi : i ∉ vs := fun z => by rw [all_false hv z] at h1; cases h1
    have hj : j ∉ vs := fun z => by rw [all_false hv z] at h2; cases h2
    rw [wipe_out hi] at e1
    rw [wipe_out hj] at e2
    exact r.sep i j a h1 h2 e1 e2
theorem own_wipe (hv : vs.all (fun v => !os.getD v false) = true) {a : Addr} : Own os (L2.wipe σ vs) a ↔ Own os σ a := by
  constructor
  · rintro ⟨i, h1, h2⟩
    have hi : i ∉ vs := fun z => by rw [all_false hv z] at h1; cases h1
    rw [wipe_out hi] at h2
    exact ⟨i, h1, h2⟩
  · rintro ⟨i, h1, h2⟩
    have hi : i ∉ vs := fun z => by rw [all_false hv z] at h1; cases h1
    exact ⟨i, h1, by rw [wipe_out hi]; exact h2⟩
theorem Rel.back (r : Rel K S H os σ ρ) (hv : vs.all (fun v => !os.getD v false) = true) (sm : Same S S3) (r3 : Rel K S3 H3 os σ2 ρ3) (hl : σ2.length = σ.length) (ho : ∀ i, i ∉ vs → σ2[i]? = σ[i]?) : Rel K S3 H3 os σ (backR vs ρ ρ3) where
  sub := r3.sub
  len := by rw [backR_len, ← r3.len, hl]
  slot := fun i x d e1 e2 => by
    by_cases hi : i ∈ vs
    · have hlt : i < σ.length := (List.getElem?_eq_some_iff.mp e1).1
      rw [backR_in hi (by rw [← r3.len, hl]; exact hlt)] at e2
      have hr : i < ρ.length := by rw [← r.len]; exact hlt
      have e3 : ρ[i]? = some d := by
        have : ρ.getD i none = d := Option.some.inj e2
        rw [← this, List.getD, List.getElem?_eq_getElem hr]; rfl
      have q := r.slot i x d e1 e3
      rw [all_false hv hi] at q ⊢
      cases x <;> cases d <;> simp only [SlotAt] at q ⊢
      exact q.mono sm
    · rw [backR_out hi] at e2
      exact r3.slot i x d (by rw [ho i hi]; exact e1) e2
  sep := fun i j a h1 h2 e1 e2 => by
    have hi : i ∉ vs := fun z => by rw [all_false hv z] at h1; cases h1
    have hj : j ∉ vs := fun z => by rw [all_false hv z] at h2; cases h2
    exact r3.sep i j a h1 h2 (by rw [ho i hi]; exact e1) (by rw [ho j hj]; exact e2)
theorem own_back (hv : vs.all (fun v => !os.getD v false) = true) (ho : ∀ i, i ∉ vs → σ2[i]? = σ[i]?) {a : Addr} : Own os σ2 a ↔ Own os σ a := by
  constructor
  · rintro ⟨i, h1, h2⟩
    have hi : i ∉ vs := fun z => by rw [all_false hv z] at h1; cases h1
    exact ⟨i, h1, by rw [← ho i hi]; exact h2⟩
  · rintro ⟨i, h1, h2⟩
    have hi : i ∉ vs := fun z => by rw [all_false hv z] at h1; cases h1
    exact ⟨i, h1, by rw [ho i hi]; exact h2⟩
end

/-! ### the block's judgements, for every start -/
abbrev W0 : WX := fun _ _ _ _ => False
def VTs (X : Cx) (W : WX) (os : Os) (es : List Expr) (f : Rho → Out (Bool × Rho)) (os' : Os) : Prop :=
  ∃ t, PTs X es t ∧ ∀ S σ H ρ Q, Rel X.K S H os σ ρ → Post X W S H os σ os' RB Q (f ρ) → t σ H Q
def tYesF : Rho → Out (Bool × Rho) := fun ρ => .ok (true, ρ)
theorem vts_nil {X : Cx} {W : WX} {os : Os} : VTs X W os [] tYesF os := ⟨_, pts_nil, fun S σ H ρ Q rel P => P.fin (os' := os) rel rfl⟩
theorem vts_one {X : Cx} {W : WX} {os os1 : Os} {c : Expr} {f : Rho → Out (Bool × Rho)} (h : VT X W os c f os1) : VTs X W os [c] f os1 := by
  obtain ⟨t, p, k⟩ := h
  exact ⟨t, pts_one p, k⟩

def compL (vs : List Nat) (b : D → Rho → Option Rho) (tt : Rho → Out (Bool × Rho)) (fe : Rho → Out (D × Rho)) : List D → Rho → Out (List D × Rho)
  | [], ρ => .ok ([], ρ)
  | x :: xs, ρ => match b x (wipeR ρ vs) with
    | none => .stuck
    | some ρ1 => match tt ρ1 with
      | .ok (true, ρ2) => match fe ρ2 with
        | .ok (d, ρ3) => (compL vs b tt fe xs (backR vs ρ ρ3)).bind fun p => .ok (d :: p.1, p.2)
        | _ => .stuck
      | .ok (false, ρ2) => compL vs b tt fe xs (backR vs ρ ρ2)
      | _ => .stuck
def eComp (vs : List Nat) (fi : Rho → Out (List D × Rho)) (b : D → Rho → Option Rho) (tt : Rho → Out (Bool × Rho)) (fe : Rho → Out (D × Rho)) : Rho → Out (D × Rho) := fun ρ =>
  (fi ρ).bind fun p => (compL vs b tt fe p.1 p.2).bind fun q => .ok (.lst q.1, q.2)
theorem compL_exc {vs : List Nat} {b : D → Rho → Option Rho} {tt : Rho → Out (Bool × Rho)} {fe : Rho → Out (D × Rho)} : ∀ {xs : List D} {ρ : Rho} {c fs}, compL vs b tt fe xs ρ ≠ .exc c fs
  | [], ρ, c, fs, h => by cases h
  | x :: xs, ρ, c, fs, h => by
    unfold compL at h
    split at h
    · cases h
    · split at h
      · split at h
        · cases e : compL vs b tt fe xs (backR vs ρ _) with
          | ok z => rw [e] at h; cases h
          | exc c fs => exact compL_exc e
          | stuck => rw [e] at h; cases h
        · cases h
      · exact compL_exc h
      · cases h

section
variable {X : Cx} {W : WX} {L : Lc} {os os1 os2 os3 osN : Os} {elt tg iter : Expr} {ifs : List Expr} {scope : Scope} {own : List (Str × Nat)} {pos : Pos} {ch : List Nat}
  {fi : Rho → Out (List D × Rho)} {b : D → Rho → Option Rho} {tt : Rho → Out (Bool × Rho)} {fe : Rho → Out (D × Rho)}
abbrev blkX (X : Cx) (scope : Scope) (s : Shared) (H : Hp) (C : Addr) (cl : List (Str × Addr)) (fp : List Addr) : Cx := X.blk s H scope (compEnvC scope cl C X.env) fp
theorem uniG (hg : ∀ s H C cl fp, VG (blkX X scope s H C cl fp) os tg b ch os1) : ∃ t : TG, (∀ s H C cl fp, PG (blkX X scope s H C cl fp) tg t) ∧
    ∀ S σ H ρ v d ρ' Q, Rel X.K S H os σ ρ → At X.K S v d → b d ρ = some ρ' → (∀ σ', Rel X.K S H os1 σ' ρ' → ChOn ch σ σ' → (∀ a, Own os1 σ' a → Own os σ a) → Q σ' H) → t v σ H Q := by
  refine ⟨fun v σ H Q => ∀ s H0 C cl fp, Classical.choose (hg s H0 C cl fp) v σ H Q, fun s H C cl fp => ⟨fun pins s' σ H' v u Q I r h => ?_⟩, fun S σ H ρ v d ρ' Q rel hv hb hq s H0 C cl fp => ?_⟩
  · exact (Classical.choose_spec (hg s H C cl fp)).1.run pins s' σ H' v u Q I r (h s H C cl fp)
  · exact (Classical.choose_spec (hg s H0 C cl fp)).2 S σ H ρ v d ρ' Q rel hv hb hq
theorem uniE (he : ∀ s H C cl fp, VE (blkX X scope s H C cl fp) W0 os elt fe os1 false) : ∃ t : TE, (∀ s H C cl fp, PE (blkX X scope s H C cl fp) elt t) ∧
    ∀ S σ H ρ Q, Rel X.K S H os σ ρ → Post X W0 S H os σ os1 (RV X.K false) Q (fe ρ) → t σ H Q := by
  refine ⟨fun σ H Q => ∀ s H0 C cl fp, Classical.choose (he s H0 C cl fp) σ H Q, fun s H C cl fp => ⟨fun pins s' σ H' Q I h => ?_⟩, fun S σ H ρ Q rel P s H0 C cl fp => ?_⟩
  · exact (Classical.choose_spec (he s H C cl fp)).1.run pins s' σ H' Q I (h s H C cl fp)
  · exact (Classical.choose_spec (he s H0 C cl fp)).2 S σ H ρ Q rel (by cases h : fe ρ <;> rw [h] at P <;> exact P)
theorem uniT (ht : ∀ s H C cl fp, VTs (blkX X scope s H C cl fp) W0 os ifs tt os1) : ∃ t : TT, (∀ s H C cl fp, PTs (blkX X scope s H C cl fp) ifs t) ∧
    ∀ S σ H ρ Q, Rel X.K S H os σ ρ → Post X W0 S H os σ os1 RB Q (tt ρ) → t σ H Q := by
  refine ⟨fun σ H Q => ∀ s H0 C cl fp, Classical.choose (ht s H0 C cl fp) σ H Q, fun s H C cl fp => ⟨fun pins s' σ H' Q I h => ?_⟩, fun S σ H ρ Q rel P s H0 C cl fp => ?_⟩
  · exact (Classical.choose_spec (ht s H C cl fp)).1.run pins s' σ H' Q I (h s H C cl fp)
  · exact (Classical.choose_spec (ht s H0 C cl fp)).2 S σ H ρ Q rel (by cases h : tt ρ <;> rw [h] at P <;> exact P)

theorem lc_read {wi : TI} {g : TG} {t1 : TT} {te : TE} {vs : List Nat} (ki : ∀ S σ H ρ R, Rel X.K S H os σ ρ → Post X W S H os σ os1 (RI X.K) R (fi ρ) → wi σ H R)
    (kg : ∀ S σ H ρ v d ρ' Q, Rel X.K S H os1 σ ρ → At X.K S v d → b d ρ = some ρ' → (∀ σ', Rel X.K S H os2 σ' ρ' → ChOn ch σ σ' → (∀ a, Own os2 σ' a → Own os1 σ a) → Q σ' H) → g v σ H Q)
    (kt : ∀ S σ H ρ Q, Rel X.K S H os2 σ ρ → Post X W0 S H os2 σ os1 RB Q (tt ρ) → t1 σ H Q) (ke : ∀ S σ H ρ Q, Rel X.K S H os1 σ ρ → Post X W0 S H os1 σ os1 (RV X.K false) Q (fe ρ) → te σ H Q)
    (hch : ∀ i ∈ ch, i ∈ vs) (hv : vs.all (fun v => !os1.getD v false) = true) : ∀ S σ H ρ Q, Rel X.K S H os σ ρ → Post X W S H os σ os1 (RV X.K true) Q (eComp vs fi b tt fe ρ) → tLc wi g t1 te vs σ H Q := by
  intro S σ H ρ Q rel P
  refine ki S σ H ρ _ rel (Post.seq P (fun z => z) (fun c fs p => p) fun items ρ1 J S1 H1 st1 rel1 q1 P1 => ?_)
  obtain ⟨hz, q1⟩ := q1
  have P1 : Post X W S1 H1 os1 σ os1 (RV X.K true) Q ((compL vs b tt fe items ρ1).bind fun q => .ok (.lst q.1, q.2)) := P1.step RV.ok st1
  intro D0 hD
  cases hc : compL vs b tt fe items ρ1 with
  | stuck => rw [hc] at P1; exact P1.elim
  | exc c fs => exact (compL_exc hc).elim
  | ok z =>
    obtain ⟨ds, ρe⟩ := z
    rw [hc] at P1
    refine ⟨fun i m H' => i + m = items.length ∧ ∃ S' ρ' accV acc dsr, Same S1 S' ∧ Ext (Own os1 σ) S1 H1 S' H' ∧ Rel X.K S' H' os1 σ ρ' ∧ S' D0 = none ∧ H' D0 = some (.lst accV) ∧ AtL X.K S' accV acc ∧ compL vs b tt fe (items.drop i) ρ' = .ok (dsr, ρe) ∧ ds = acc ++ dsr ∧ acc.length ≤ i,
      ⟨items.length, by omega, S1, ρ1, [], [], ds, Same.refl _, Ext.newO rel1.sub hD, rel1.newO hD, rel1.sub.free hD, upd_same, .nil, hc, rfl, Nat.le_refl _⟩, ?_⟩
    rintro i m H' ⟨hm, S', ρ', accV, acc, dsr, s1, x1, rel', nD, eD, hacc, hcl, hds, hal⟩
    obtain ⟨hstop, hgo⟩ := q1 i S' H' s1 rel'.sub
    by_cases hlt : i < items.length
    · have ed := List.getElem?_eq_getElem hlt
      obtain ⟨go, hy⟩ := hgo _ ed
      rw [List.drop_eq_getElem_cons hlt] at hcl
      unfold compL at hcl
      refine .inr ⟨go, fun H'' => ∃ S'' ρ'' accV' acc' dsr', Same S1 S'' ∧ Ext (Own os1 σ) S1 H1 S'' H'' ∧ Rel X.K S'' H'' os1 σ ρ'' ∧ S'' D0 = none ∧ H'' D0 = some (.lst accV') ∧ AtL X.K S'' accV' acc' ∧ compL vs b tt fe (items.drop (i + 1)) ρ'' = .ok (dsr', ρe) ∧ ds = acc' ++ dsr' ∧ acc'.length ≤ i + 1,
        fun H'' h => ⟨m - 1, by omega, by omega, h⟩, fun x H2 y => ?_⟩
      obtain ⟨S2, x2, hat⟩ := hy x H2 y
      have rel2 := rel'.ext0 x2
      obtain ⟨eD2, nD2⟩ := x2.fr D0 _ eD nD fun z => z
      have hacc2 := hacc.mono x2.s
      cases eb : b items[i] (wipeR ρ' vs) with
      | none => rw [eb] at hcl; cases hcl
      | some ρ2 =>
        rw [eb] at hcl
        dsimp only at hcl
        refine kg S2 (wipe σ vs) H2 (wipeR ρ' vs) x _ ρ2 _ (rel2.wipe hv) hat eb fun σ3 rel3 f3 o3 => ?_
        refine ⟨wipe_eq f3 hch, ?_⟩
        have hl3 : σ3.length = σ.length := by rw [f3.1, wipe_length]
        have ho3 : ∀ i, i ∉ vs → σ3[i]? = σ[i]? := fun i hi => by rw [f3.2 i fun z => hi (hch i z), wipe_out hi]
        -- the result's cell is nobody's
        have noD : ∀ {K S H os σ ρ}, Rel K S H os σ ρ → H D0 ≠ none → S D0 = none → (Own os σ D0 → False) → True := fun _ _ _ _ => trivial
        have nown : ¬ Own os1 σ D0 := fun z => by
          obtain ⟨_, o, eo⟩ := rel1.owned z
          rw [hD] at eo; cases eo
        have nown2 : ¬ Own os2 σ3 D0 := fun z => nown ((own_wipe hv).mp (o3 D0 z))
        have sub3 : ∀ a, Own os2 σ3 a → Own os1 σ a := fun a z => (own_wipe hv).mp (o3 a z)
        cases et : tt ρ2 with
        | stuck => rw [et] at hcl; cases hcl
        | exc c fs => rw [et] at hcl; cases hcl
        | ok z =>
          obtain ⟨bb, ρ3⟩ := z
          rw [et] at hcl
          refine kt S2 σ3 H2 ρ2 _ rel3 ?_
          rw [et]
          intro b' S4 H4 st4 rel4 q4
          cases q4
          obtain ⟨eD4, nD4⟩ := st4.ext.fr D0 _ eD2 nD2 nown2
          have x4 : Ext (Own os1 σ) S2 H2 S4 H4 := st4.ext.weak sub3
          have xa : Ext (Own os1 σ) S1 H1 S4 H4 := x1.trans ((x2.weak fun _ z => z.elim).trans x4 fun c z => .inl z) fun c z => .inl z
          cases bb with
          | false =>
            dsimp only at hcl
            rw [if_neg Bool.false_ne_true]
            exact ⟨S4, backR vs ρ' ρ3, accV, acc, dsr, xa.s, xa, rel2.back hv st4.ext.s rel4 hl3 ho3, nD4, eD4, hacc2.mono st4.ext.s, hcl, hds, by omega⟩
          | true =>
            dsimp only at hcl
            rw [if_pos rfl]
            cases ee : fe ρ3 with
            | stuck => rw [ee] at hcl; cases hcl
            | exc c fs => rw [ee] at hcl; cases hcl
            | ok z =>
              obtain ⟨d, ρ4⟩ := z
              rw [ee] at hcl
              dsimp only at hcl
              refine ke S4 σ3 H4 ρ3 _ rel4 ?_
              rw [ee]
              intro v S5 H5 st5 rel5 q5
              have q5 : At X.K S5 v d := q5
              have nown4 : ¬ Own os1 σ3 D0 := fun z => nown ((own_back hv ho3).mp z)
              obtain ⟨eD5, nD5⟩ := st5.ext.fr D0 _ eD4 nD4 nown4
              cases hcc : compL vs b tt fe (items.drop (i + 1)) (backR vs ρ' ρ4) with
              | stuck => rw [hcc] at hcl; cases hcl
              | exc c fs => exact (compL_exc hcc).elim
              | ok z =>
                obtain ⟨ds', ρe'⟩ := z
                rw [hcc] at hcl
                have hcl : Out.ok (d :: ds', ρe') = Out.ok (dsr, ρe) := hcl
                injection hcl with hcl
                injection hcl with h1 h2
                subst h1 h2
                have x5 : Ext (Own os1 σ) S4 H4 S5 H5 := st5.ext.weak fun a z => (own_back hv ho3).mp z
                have xb : Ext (Own os1 σ) S1 H1 S5 H5 := xa.trans x5 fun c z => .inl z
                have accl : accV.length = acc.length := hacc.length
                have relb : Rel X.K S5 H5 os1 σ (backR vs ρ' ρ4) := rel2.back hv (st4.ext.s.trans st5.ext.s) rel5 hl3 ho3
                refine ⟨accV, eD5, by omega, S5, backR vs ρ' ρ4, accV ++ [v], acc ++ [d], ds', xb.s, ?_, ?_, nD5, upd_same, ((hacc2.mono st4.ext.s).mono st5.ext.s).append (.cons q5 .nil), hcc, by rw [hds, List.append_assoc]; rfl, by rw [List.length_append]; simp; omega⟩
                · refine ⟨xb.s, fun c o e => ?_, fun c o e n no => ?_, fun c e => ?_⟩
                  · have hcD : c ≠ D0 := fun z => by rw [z, nD5] at e; cases e
                    rw [upd_ne hcD]; exact xb.sh c o e
                  · obtain ⟨e1, n1⟩ := xb.fr c o e n no
                    have hcD : c ≠ D0 := fun z => by rw [z, hD] at e; cases e
                    rw [upd_ne hcD]; exact ⟨e1, n1⟩
                  · by_cases hcD : c = D0
                    · rw [hcD, upd_same] at e; cases e
                    · rw [upd_ne hcD] at e; exact xb.there c e
                · refine relb.grow (S' := S5) (H' := upd H5 D0 (.lst (accV ++ [v]))) (O := fun c => c = D0) ⟨Same.refl _, fun c o e => ?_, fun c o e n no => ?_, fun c e => ?_⟩ fun c z hz => nown (hz ▸ z)
                  · have hcD : c ≠ D0 := fun z => by rw [z, nD5] at e; cases e
                    rw [upd_ne hcD]; exact relb.sub c o e
                  · rw [upd_ne no]; exact ⟨e, n⟩
                  · by_cases hcD : c = D0
                    · rw [hcD, upd_same] at e; cases e
                    · rw [upd_ne hcD] at e; exact e
    · refine .inl ⟨hstop (by omega), ?_⟩
      rw [List.drop_of_length_le (by omega)] at hcl
      have hcl : Out.ok ([], ρ') = Out.ok (dsr, ρe) := hcl
      injection hcl with hcl
      injection hcl with h1 h2
      subst h1 h2
      rw [List.append_nil] at hds
      subst hds
      exact P1 (.ref D0) S' H' ⟨x1, fun a q => .inl q⟩ rel' ⟨OwnAt.mkL (ds := ds) nD eD (by omega) hacc, fun a e => by cases e; exact hD⟩

/-- [elt for tg in iter if ..] -/
theorem ve_lc (ok : BlkOk X.N X.env.scope scope own) (hi : VI X W os tg iter fi os1) (hg : ∀ s H C cl fp, VG (blkX X scope s H C cl fp) os1 tg b ch os2) (ht : ∀ s H C cl fp, VTs (blkX X scope s H C cl fp) W0 os2 ifs tt os1)
    (he : ∀ s H C cl fp, VE (blkX X scope s H C cl fp) W0 os1 elt fe os1 false) (hN : X.N.Nodup) (hch : ∀ i ∈ ch, i ∈ own.map (·.2) := by decide) (hv : (own.map (·.2)).all (fun v => !os1.getD v false) = true := by rfl) (hc : X.calm = true := by rfl) (hs : ∀ x, foldedSetIterable iter X.env x = pure x := by intro _; rfl) :
    VE X W os (.ListComp elt [⟨tg, iter, ifs, 0⟩] scope pos) (eComp (own.map (·.2)) fi b tt fe) os1 true := by
  obtain ⟨wi, pi, ki⟩ := hi
  obtain ⟨g, pg, kg⟩ := uniG hg
  obtain ⟨t1, pt, kt⟩ := uniT ht
  obtain ⟨te, pe, ke⟩ := uniE he
  exact ⟨_, pe_lc hc hN pi ok pg pt pe hs, lc_read ki kg kt ke hch hv⟩
/-- x = [elt for ..], x a plain local name: it owns the list -/
theorem vs_setLc (i : Nat) {x : Str} {p spos : Pos} (ok : BlkOk X.N X.env.scope scope own) (hi : VI X W os tg iter fi os1) (hg : ∀ s H C cl fp, VG (blkX X scope s H C cl fp) os1 tg b ch os2) (ht : ∀ s H C cl fp, VTs (blkX X scope s H C cl fp) W0 os2 ifs tt os1)
    (he : ∀ s H C cl fp, VE (blkX X scope s H C cl fp) W0 os1 elt fe os1 false) (hN : X.N.Nodup) (hsw : swapsWith (.ListComp elt [⟨tg, iter, ifs, 0⟩] scope pos) (some (.Name x p)) spos.line X.env = pure true) (hx : X.N[i]? = some x := by rfl) (hxl : X.env.scope.names.lookup x = some .local := by rfl) (hfi : L.fx.getD i false = false := by rfl) (hio : i < os1.length := by decide) (hle : Le os1 os := by rfl)
    (hch : ∀ i ∈ ch, i ∈ own.map (·.2) := by decide) (hv : (own.map (·.2)).all (fun v => !os1.getD v false) = true := by rfl) (hc : X.calm = true := by rfl) (hs : ∀ x, foldedSetIterable iter X.env x = pure x := by intro _; rfl) :
    VS X W L os (.Assign [.Name x p] (.ListComp elt [⟨tg, iter, ifs, 0⟩] scope pos) spos) (sSet i (eComp (own.map (·.2)) fi b tt fe)) (os1.set i true) := by
  obtain ⟨wi, pi, ki⟩ := hi
  obtain ⟨g, pg, kg⟩ := uniG hg
  obtain ⟨t1, pt, kt⟩ := uniT ht
  obtain ⟨te, pe, ke⟩ := uniE he
  refine ⟨_, ps_setLc hc hN hx hxl hsw pi ok pg pt pe hs, fun S σ H ρ Ds rel P => ?_⟩
  refine lc_read ki kg kt ke hch hv S σ H ρ _ rel (Post.seq P (fun z => z) (fun _ _ p S' H' cls dd e q => p σ S' H' cls dd e q) fun d ρ1 v S1 H1 s1 r1 q1 P1 => ?_)
  refine P1 _ S1 H1 ⟨s1.ext, fun a q => ?_⟩ (fix_set hfi) (r1.setO q1.1 (fun a ea j hj ho hs => ?_) hio)
  · rcases own_setO q with q | q
    · exact s1.own a q
    · exact .inr (q1.2 a q)
  · obtain ⟨n, o, eo⟩ := rel.owned ⟨j, getD_le hle ho, hs⟩
    rw [q1.2 a ea] at eo
    cases eo
/-- what a name owns stands behind a statement -/
theorem VS.fz {st : Stmt} {g : Rho → Out Fl} (i : Nat) (h : VS X W L os st g osN) : VS X W L os st g (osN.set i false) := by
  obtain ⟨t, p, k⟩ := h
  refine ⟨t, p, fun S σ H ρ Ds rel P => k S σ H ρ Ds rel ?_⟩
  cases e : g ρ with
  | ok z =>
    rw [e] at P
    cases z with
    | nx ρ' =>
      intro σ' S' H' s' f' r'
      obtain ⟨S'', _, r'', s'', _⟩ := freeze1 r' i
      exact P σ' S'' H' (s'.trans s'') f' r''
    | bk ρ' => exact P
    | ct ρ' => exact P
    | rt d ρ' => exact P
  | exc c fs => rw [e] at P; exact P
  | stuck => rw [e] at P; exact P
theorem VSs.fz {st : List Stmt} {g : Rho → Out Fl} (i : Nat) (h : VSs X W L os st g osN) : VSs X W L os st g (osN.set i false) := by
  obtain ⟨t, p, k⟩ := h
  refine ⟨t, p, fun S σ H ρ Ds rel P => k S σ H ρ Ds rel ?_⟩
  cases e : g ρ with
  | ok z =>
    rw [e] at P
    cases z with
    | nx ρ' =>
      intro σ' S' H' s' f' r'
      obtain ⟨S'', _, r'', s'', _⟩ := freeze1 r' i
      exact P σ' S'' H' (s'.trans s'') f' r''
    | bk ρ' => exact P
    | ct ρ' => exact P
    | rt d ρ' => exact P
  | exc c fs => rw [e] at P; exact P
  | stuck => rw [e] at P; exact P
end
end SW

set_option maxRecDepth 100000
/-! SW7: operators, comparisons, subscripts, slices, built-ins, methods that turn an owned list. -/
namespace SW
open PySem PySem.Spec PyProof.Rows L2

section
variable {X : Cx} {S H : Hp}
/-! ### numbers -/
def iop2 (c : Int → Int → Bool) (g : Int → Int → D) : D → D → Option D
  | .int i, .int j => if c i j = true then some (g i j) else none
  | _, _ => none
theorem op2_int {f : Value → Value → Sem Value} {C : Int → Int → Prop} {gv : Int → Int → V} {c : Int → Int → Bool} {g : Int → Int → D} (ho : OpR X f (rI C gv)) (hc : ∀ i j, c i j = true → C i j) (hg : ∀ K S i j, At K S (gv i j) (g i j)) : Op2 X f (iop2 c g) := by
  refine ⟨_, ho, fun S H x y a b d Q sub ha hb e k => ?_⟩
  cases ha with
  | int i =>
    cases hb with
    | int j =>
      have e : (if c i j = true then some (g i j) else none) = some d := e
      split at e
      · rename_i h
        cases e
        exact ⟨i, j, rfl, rfl, hc i j h, k _ S H (Ext.refl sub) (hg _ _ _ _)⟩
      · cases e
    | _ => cases e
  | _ => cases e
theorem Op2.or {f : Value → Value → Sem Value} {g1 g2 : D → D → Option D} (h1 : Op2 X f g1) (h2 : Op2 X f g2) : Op2 X f (fun a b => match g1 a b with | some c => some c | none => g2 a b) := by
  obtain ⟨r1, o1, k1⟩ := h1
  obtain ⟨r2, o2, k2⟩ := h2
  refine ⟨fun x y H Q => r1 x y H Q ∨ r2 x y H Q, fun pins s σ H x y v u Q I rx ry q => ?_, fun S H x y a b c Q sub ha hb e k => ?_⟩
  · rcases q with q | q
    · exact o1 pins s σ H x y v u Q I rx ry q
    · exact o2 pins s σ H x y v u Q I rx ry q
  · dsimp only at e
    cases e1 : g1 a b with
    | some c1 =>
      rw [e1] at e
      cases e
      exact .inl (k1 S H x y a b _ Q sub ha hb e1 k)
    | none =>
      rw [e1] at e
      exact .inr (k2 S H x y a b c Q sub ha hb e k)
def always (_ _ : Int) : Bool := true
def bits2 (i j : Int) : Bool := decide (i.natAbs.log2 + j.natAbs.log2 < 134000000) || decide (i.natAbs < 2 ^ 63) || decide (j.natAbs < 2 ^ 63)
theorem mul_wide {i j : Int} (h3 : i.natAbs.log2 + j.natAbs.log2 < 134000000) : IntMulOk i j := by
  have b : ∀ x : Int, Builtin.Int.intBits x ≤ x.natAbs.log2 + 1 := fun x => by
    unfold Builtin.Int.intBits
    split <;> omega
  have h1 := b i
  have h2 := b j
  have e : bitsLine = 134217728 := by decide
  unfold IntMulOk
  intro z
  rw [Bool.and_eq_true] at z
  have z2 : decide ((((Builtin.Int.intBits i + Builtin.Int.intBits j : Nat) : Int)) > bitsLine) = true := z.2
  have z3 := of_decide_eq_true z2
  rw [e] at z3
  omega
theorem bits2_ok {i j : Int} (h : bits2 i j = true) : IntMulOk i j := by
  unfold bits2 at h
  rw [Bool.or_eq_true, Bool.or_eq_true] at h
  rcases h with (h | h) | h
  · have h' : i.natAbs.log2 + j.natAbs.log2 < 134000000 := of_decide_eq_true h
    exact mul_wide h'
  · have h := of_decide_eq_true h
    exact .of_left (intBits_le_64 (by omega) (by omega))
  · have h := of_decide_eq_true h
    exact .of_right (intBits_le_64 (by omega) (by omega))
theorem rI0_rI {f : Value → Value → Sem Value} {g : Int → Int → V} (h : OpR X f (rI0 g)) : OpR X f (rI (fun _ _ => True) g) := fun pins s σ H x y v u Q I rx ry ⟨i, j, e1, e2, _, q⟩ => h pins s σ H x y v u Q I rx ry ⟨i, j, e1, e2, q⟩
theorem op_mulA : OpR X (binaryOp .Mult) (rI IntMulOk fun i j => .int (i * j)) := opI fun _ _ _ _ _ _ _ hc q => mul_int q hc
def fdivOk (_ j : Int) : Bool := j != 0

theorem strKeys_of {es : Array DictEntry} (h : strKeysB es = true) : StrKeys es := fun e he => by
  have q := List.all_eq_true.mp h e (Array.mem_toList_iff.mpr he)
  cases z : e.key with
  | str n t => exact ⟨n, t, rfl⟩
  | _ => rw [z] at q; cases q
theorem noneAt_of {es : Array DictEntry} {x : Str} (h : noneAt es x = true) : nsFind es x = none := by
  unfold noneAt at h
  exact Option.isNone_iff_eq_none.mp h
theorem seer_of {K : PySem.W.Frag} {h : Heap} {mg : Str → Option Value} (hK : K.In h) (hb : ∃ mb, h.Ns builtinsNs mb ∧ ∀ x : Str, x ≠ "__name__" → mb x = bootBuiltins x) (hg : h.Ns mainGlobals mg) (b : seerB K = true) : h.NoSeer := by
  unfold seerB at b
  obtain ⟨b1, b'⟩ := Bool.and_eq_true_iff.mp b
  obtain ⟨b2, b3⟩ := Bool.and_eq_true_iff.mp b'
  refine ⟨?_, ?_, hb, ?_⟩
  · split at b1
    · rename_i c d es ep sl e
      obtain ⟨k, q⟩ := Bool.and_eq_true_iff.mp b1
      obtain ⟨q1, q2⟩ := Bool.and_eq_true_iff.mp q
      exact ⟨nsFind es, ⟨_, es, ep, hK _ _ e, rfl, strKeys_of k, fun _ => rfl⟩, noneAt_of q1, noneAt_of q2⟩
    · cases b1
  · split at b2
    · rename_i c d es ep sl e
      obtain ⟨k, q1⟩ := Bool.and_eq_true_iff.mp b2
      exact ⟨nsFind es, ⟨_, es, ep, hK _ _ e, rfl, strKeys_of k, fun _ => rfl⟩, noneAt_of q1⟩
    · cases b2
  · split at b3
    · rename_i bm e
      split at b3
      · rename_i x d dt sl e2
        obtain ⟨q1, q2⟩ := Bool.and_eq_true_iff.mp b3
        refine ⟨mg, bm, _, hg, PySem.W.mg_of hK hg e, hK _ _ e2, ?_, ?_⟩
        · show Value.type x = Value.type "module"
          rw [eq_of_beq q1]
        · show some d = some builtinsNs
          rw [eq_of_beq q2]
      · cases b3
    · cases b3
/-- what a division by a divisor of any size asks of the context -/
structure Dv (X : Cx) : Prop where
  seer : seerB X.K = true
  tree : X.prog.given.tree = none
  dp : X.A.depth + 100 < recursionLimit
  st : ∃ env l, X.stack = env :: l ∧ env.scope.isGenerator = false ∧ env.scope.isCoroutine = false ∧ env.builtins = builtinsNs ∧ env.globals = mainGlobals
theorem dv_room {k : Nat} {A : Around} (r : Room k A) (h : 32 ≤ k) : A.depth + 100 < recursionLimit := by have := r.dp; omega
theorem op_fdivP (hd : Dv X) : OpR X (binaryOp .FloorDiv) (rI (fun _ j => j ≠ 0) fun i j => .int (i.fdiv j)) := by
  intro pins s σ H x y v u Q I rx ry h
  obtain ⟨i, j, rfl, rfl, hc, q⟩ := h
  obtain ⟨t, rfl⟩ := rx
  obtain ⟨t', rfl⟩ := ry
  obtain ⟨env, l, e, g1, g2, g3, g4⟩ := hd.st
  obtain ⟨mb, hb, hb2⟩ := I.ok.mod.blt
  have hN : s.heap.NoSeer := seer_of I.kIn ⟨mb, hb.keeps I.bk, hb2⟩ (I.ok.mod.glob.keeps I.bk) hd.seer
  exact floordiv_int hc ⟨.int (i.fdiv j), H, I.tok _, ⟨_, rfl⟩, q⟩ (.inr (PylongRoom.of I.nolimit hd.dp (SeerAt.of hN hd.tree (I.ok.frames.trans (congrArg some e)) g1 g2 g3 g4)))
def addI := iop2 always fun i j => .int (i + j)
def subD := iop2 always fun i j => .int (i - j)
def mulI := iop2 bits2 fun i j => .int (i * j)
def fdivD := iop2 fdivOk fun i j => .int (i.fdiv j)
def modD := iop2 (fun _ j => j != 0) fun i j => .int (i.fmod j)
def powOk (i j : Int) : Bool := decide (0 ≤ j) && decide (j ≤ 1000000) && decide (i.natAbs < 2 ^ 64)
def powD := iop2 powOk fun i j => .int (i ^ j.toNat)
theorem o_addI : Op2 X (binaryOp .Add) addI := op2_int (rI0_rI op_add) (fun _ _ _ => trivial) fun _ _ _ _ => .int _
theorem o_sub : Op2 X (binaryOp .Sub) subD := op2_int (rI0_rI op_sub) (fun _ _ _ => trivial) fun _ _ _ _ => .int _
theorem o_mulI : Op2 X (binaryOp .Mult) mulI := op2_int op_mulA (fun _ _ h => bits2_ok h) fun _ _ _ _ => .int _
theorem o_fdiv (hd : Dv X) : Op2 X (binaryOp .FloorDiv) fdivD := op2_int (op_fdivP hd) (fun _ j h => by
  unfold fdivOk at h
  simpa using h) fun _ _ _ _ => .int _
theorem o_mod : Op2 X (binaryOp .Mod) modD := op2_int op_modN (fun _ j h => by simpa using h) fun _ _ _ _ => .int _
theorem powOk_iff {i j : Int} (h : powOk i j = true) : CPow i j := by
  unfold powOk at h
  rw [Bool.and_eq_true, Bool.and_eq_true] at h
  exact ⟨of_decide_eq_true h.1.1, of_decide_eq_true h.1.2, of_decide_eq_true h.2⟩
theorem o_pow : Op2 X (binaryOp .Pow) powD := op2_int op_pow (fun _ _ h => powOk_iff h) fun _ _ _ _ => .int _
def ltI := iop2 always fun i j => .bl (decide (i < j))
def leI := iop2 always fun i j => .bl (decide (i ≤ j))
def gtI := iop2 always fun i j => .bl (decide (j < i))
def geI := iop2 always fun i j => .bl (decide (j ≤ i))
theorem o_ltI : Op2 X (compareOp .Lt) ltI := op2_int (rI0_rI op_lt) (fun _ _ _ => trivial) fun _ _ _ _ => .bl _
theorem o_leI : Op2 X (compareOp .LtE) leI := op2_int (rI0_rI op_le) (fun _ _ _ => trivial) fun _ _ _ _ => .bl _
theorem o_gtI : Op2 X (compareOp .Gt) gtI := op2_int (rI0_rI op_gt) (fun _ _ _ => trivial) fun _ _ _ _ => .bl _
theorem o_geI : Op2 X (compareOp .GtE) geI := op2_int (rI0_rI op_ge) (fun _ _ _ => trivial) fun _ _ _ _ => .bl _
def negD : D → Option D
  | .int i => some (.int (-i))
  | _ => none
theorem o_neg : Op1 X (unaryOp .USub) negD := ⟨_, un_neg, fun S H x a c Q sub ha e k => by
  cases ha with
  | int i => cases e; exact ⟨i, rfl, k _ S H (Ext.refl sub) (.int _)⟩
  | _ => cases e⟩

/-! ### data that are compared -/
mutual
def D.py : D → Option PyData
  | .non => some .none
  | .bl b => some (.bool b)
  | .int i => some (.int i)
  | .str x => some (.str x)
  | .tup xs => (D.pyL xs).map .tuple
  | .lst xs => (D.pyL xs).map .list
  | .scr ns => some (.list (ns.map .int))
  | .dct _ => none
  | .ins _ _ => none
  | .exc _ _ => none
  | .ty _ => none
def D.pyL : List D → Option (List PyData)
  | [] => some []
  | x :: xs => match D.py x, D.pyL xs with
    | some p, some ps => some (p :: ps)
    | _, _ => none
end
theorem dp_ints {K : PySem.W.Frag} {H : Hp} : ∀ ns : List Int, DpAll K H (ns.map V.int) (ns.map PyData.int)
  | [] => .nil
  | n :: ns => .cons (.int n) (dp_ints ns)
mutual
theorem At.dp {K : PySem.W.Frag} {S : Hp} : ∀ {v : V} {d : D} {p : PyData}, At K S v d → d.py = some p → Dp K S v p
  | _, _, _, .non, e => by cases e; exact .non
  | _, _, _, .bl b, e => by cases e; exact .bl b
  | _, _, _, .int i, e => by cases e; exact .int i
  | _, _, _, .str x, e => by cases e; exact .str x
  | _, .tup ds, _, .tup h z r, e => by
    unfold D.py at e
    cases q : D.pyL ds with
    | none => rw [q] at e; cases e
    | some ps => rw [q] at e; cases e; exact .tup h (AtL.dp r q)
  | _, .lst ds, _, .lst h z r, e => by
    unfold D.py at e
    cases q : D.pyL ds with
    | none => rw [q] at e; cases e
    | some ps => rw [q] at e; cases e; exact .lst (.of h) (AtL.dp r q)
  | _, _, _, .scr h z, e => by cases e; exact .lst h (dp_ints _)
  | _, _, _, .dct _ _ _ _, e => by cases e
  | _, _, _, .ins _ _ _ _ _, e => by cases e
  | _, _, _, .exc0 _ _, e => by cases e
  | _, _, _, .exc1 _ _ _ _, e => by cases e
  | _, _, _, .ty _ _, e => by cases e
theorem AtL.dp {K : PySem.W.Frag} {S : Hp} : ∀ {vs : List V} {ds : List D} {ps : List PyData}, AtL K S vs ds → D.pyL ds = some ps → DpAll K S vs ps
  | _, _, _, .nil, e => by cases e; exact .nil
  | _, d :: ds, _, .cons h r, e => by
    unfold D.pyL at e
    cases q1 : D.py d with
    | none => rw [q1] at e; cases e
    | some p =>
      cases q2 : D.pyL ds with
      | none => rw [q1, q2] at e; cases e
      | some ps => rw [q1, q2] at e; cases e; exact .cons (At.dp h q1) (AtL.dp r q2)
end
def cmpP (g : PyData → PyData → Bool) (ok : PyData → PyData → Bool) : D → D → Option D := fun a b => match a.py, b.py with
  | some p, some q => if ok p q = true then some (.bl (g p q)) else none
  | _, _ => none
theorem cmpP_some {g ok} {a b c : D} (h : cmpP g ok a b = some c) : ∃ p q, a.py = some p ∧ b.py = some q ∧ ok p q = true ∧ c = .bl (g p q) := by
  unfold cmpP at h
  cases e1 : a.py with
  | none => rw [e1] at h; cases h
  | some p =>
    cases e2 : b.py with
    | none => rw [e1, e2] at h; cases h
    | some q =>
      rw [e1, e2] at h
      dsimp only at h
      split at h
      · rename_i ho
        cases h
        exact ⟨p, q, rfl, rfl, ho, rfl⟩
      · cases h
def shOk (p q : PyData) : Bool := SeqAt.shaped p && SeqAt.shaped q
def eqD := cmpP PyData.eqv shOk
def neD := cmpP (fun p q => !PyData.eqv p q) shOk
theorem o_eq (hu : X.A.units + 64 < cLine) : Op2 X (compareOp .Eq) eqD := ⟨_, op_eqD hu, fun S H x y a b c Q sub ha hb e k => by
  obtain ⟨p, q, e1, e2, ho, rfl⟩ := cmpP_some e
  unfold shOk at ho
  rw [Bool.and_eq_true] at ho
  exact ⟨p, q, (ha.mono sub).dp e1, (hb.mono sub).dp e2, ho.1, ho.2, k _ S H (Ext.refl sub) (.bl _)⟩⟩
theorem o_ne (hu : X.A.units + 64 < cLine) : Op2 X (compareOp .NotEq) neD := ⟨_, op_neD hu, fun S H x y a b c Q sub ha hb e k => by
  obtain ⟨p, q, e1, e2, ho, rfl⟩ := cmpP_some e
  unfold shOk at ho
  rw [Bool.and_eq_true] at ho
  exact ⟨p, q, (ha.mono sub).dp e1, (hb.mono sub).dp e2, ho.1, ho.2, k _ S H (Ext.refl sub) (.bl _)⟩⟩
def notNone : PyData → Bool
  | .none => false
  | _ => true
def alOk (p q : PyData) : Bool := PySem.W.alike p q && notNone p && decide (p.depth ≤ 64)
def rOrd (K : PySem.W.Frag) (g : PyData → PyData → Bool) : R2 := fun x y H Q => ∃ p q, Dp K H x p ∧ Dp K H y q ∧ alOk p q = true ∧ Q (.bl (g p q)) H
theorem alOk_iff {p q : PyData} (h : alOk p q = true) : PySem.W.alike p q = true ∧ p ≠ .none ∧ p.depth ≤ 64 := by
  unfold alOk at h
  rw [Bool.and_eq_true, Bool.and_eq_true] at h
  refine ⟨h.1.1, fun z => ?_, of_decide_eq_true h.2⟩
  rw [z] at h
  cases h.1.2
theorem op_ord {op : CmpOp} {g : PyData → PyData → Bool} (hu : X.A.units + 64 < cLine)
    (rule : ∀ {E : Value → Shared → Prop} {s : Shared} {a b : Value} {da db : PyData} {as bs : List Addr} {Q : Value → Shared → Prop}, Reads s.heap a da as → Reads s.heap b db bs → PySem.W.alike da db = true → da ≠ .none → X.A.units + min da.depth db.depth < cLine → Q (.bool (g da db)) s → wpAny (model X.prog X.w) X.A (compareOp op a b) Q E s) :
    OpR X (compareOp op) (rOrd X.K g) := by
  intro pins s σ H x y v u Q I rx ry h
  obtain ⟨d, e, hd, he, ok, q⟩ := h
  obtain ⟨al, nn, dp⟩ := alOk_iff ok
  obtain ⟨as, r1⟩ := Dp.reads I d x v hd rx
  obtain ⟨bs, r2⟩ := Dp.reads I e y u he ry
  exact rule r1 r2 al nn (by have := Nat.min_le_left d.depth e.depth; omega) ⟨.bl _, H, I, rfl, q⟩
theorem o_ord {op : CmpOp} {g : PyData → PyData → Bool} (h : OpR X (compareOp op) (rOrd X.K g)) : Op2 X (compareOp op) (cmpP g alOk) := ⟨_, h, fun S H x y a b c Q sub ha hb e k => by
  obtain ⟨p, q, e1, e2, ho, rfl⟩ := cmpP_some e
  exact ⟨p, q, (ha.mono sub).dp e1, (hb.mono sub).dp e2, ho, k _ S H (Ext.refl sub) (.bl _)⟩⟩
def ltD := cmpP PySem.W.dataLt alOk
def gtD := cmpP (fun p q => PySem.W.dataLt q p) alOk
def leD := cmpP (fun p q => !PySem.W.dataLt q p) alOk
def geD := cmpP (fun p q => !PySem.W.dataLt p q) alOk
theorem o_lt (hu : X.A.units + 64 < cLine) : Op2 X (compareOp .Lt) ltD := o_ord (op_ord hu fun a b c d e f => PySem.W.lt_data a b c d e f)
theorem o_gt (hu : X.A.units + 64 < cLine) : Op2 X (compareOp .Gt) gtD := o_ord (op_ord hu fun a b c d e f => PySem.W.gt_data a b c d e f)
theorem o_le (hu : X.A.units + 64 < cLine) : Op2 X (compareOp .LtE) leD := o_ord (op_ord hu fun a b c d e f => PySem.W.le_data a b c d e f)
theorem o_ge (hu : X.A.units + 64 < cLine) : Op2 X (compareOp .GtE) geD := o_ord (op_ord hu fun a b c d e f => PySem.W.ge_data a b c d e f)
/-- in a list (or a tuple's list) of data -/
def inD : D → D → Option D := fun a b => match b with
  | .lst ds => match a.py, D.pyL ds with
    | some p, some qs => if SeqAt.shaped p = true ∧ SeqAt.shaped (.list qs) = true then some (.bl (qs.any fun z => PyData.eqv z p)) else none
    | _, _ => none
  | _ => none
theorem o_in (hu : X.A.units + 65 < cLine) : Op2 X (compareOp .In) inD := ⟨_, op_inD hu, fun S H x y a b c Q sub ha hb e k => by
  cases hb with
  | @lst aa vs ds h z r =>
    have e : (match a.py, D.pyL ds with
    | some p, some qs => if SeqAt.shaped p = true ∧ SeqAt.shaped (.list qs) = true then some (.bl (qs.any fun z => PyData.eqv z p)) else none
    | _, _ => none) = some c := e
    cases e1 : a.py with
    | none => rw [e1] at e; cases e
    | some p =>
      cases e2 : D.pyL ds with
      | none => rw [e1, e2] at e; cases e
      | some qs =>
        rw [e1, e2] at e
        dsimp only at e
        split at e
        · rename_i ho
          cases e
          exact ⟨p, qs, (ha.mono sub).dp e1, .lst (.of (sub _ _ h)) ((r.mono sub).dp e2), ho.1, ho.2, k _ S H (Ext.refl sub) (.bl _)⟩
        · cases e
  | _ => cases e⟩
/-! ### sums of tuples, lists, texts -/
def catT : D → D → Option D
  | .tup xs, .tup ys => if xs.length + ys.length ≤ sizeLine then some (.tup (xs ++ ys)) else none
  | _, _ => none
def catL : D → D → Option D
  | .lst xs, .lst ys => if xs.length + ys.length ≤ sizeLine then some (.lst (xs ++ ys)) else none
  | _, _ => none
def catS : D → D → Option D
  | .str x, .str y => if x.length + y.length ≤ sizeLine then some (.str (x ++ y)) else none
  | _, _ => none
theorem o_catT : Op2 X (binaryOp .Add) catT := ⟨_, op_catA, fun S H x y a b c Q sub ha hb e k => by
  cases ha with
  | @tup p vs xs h z r =>
    cases hb with
    | @tup p2 vs2 ys h2 z2 r2 =>
      have e : (if xs.length + ys.length ≤ sizeLine then some (D.tup (xs ++ ys)) else none) = some c := e
      split at e
      · rename_i hz
        cases e
        have l1 := r.length
        have l2 := r2.length
        refine ⟨p, p2, vs, vs2, rfl, rfl, sqT_mono sub h, sqT_mono sub h2, by rw [l1, l2]; exact hz, fun hx => ?_, fun hx hy => ?_, fun hx hy q nq => ?_⟩
        · subst hx
          cases r
          exact k _ S H (Ext.refl sub) (.tup h2 z2 r2)
        · subst hy
          cases r2
          refine k _ S H (Ext.refl sub) ?_
          rw [List.append_nil]
          exact .tup h z r
        · have xx := Ext.new (O := fun _ => False) (o := .tup (vs ++ vs2)) sub nq
          exact k _ _ _ xx (.tup (.inl (.inl upd_same)) (by rw [List.length_append]; exact hz) ((r.append r2).mono xx.s))
      · cases e
    | _ => cases e
  | _ => cases e⟩
theorem o_catL : Op2 X (binaryOp .Add) catL := ⟨_, op_cat, fun S H x y a b c Q sub ha hb e k => by
  cases ha with
  | @lst p vs xs h z r =>
    cases hb with
    | @lst p2 vs2 ys h2 z2 r2 =>
      have e : (if xs.length + ys.length ≤ sizeLine then some (D.lst (xs ++ ys)) else none) = some c := e
      split at e
      · rename_i hz
        cases e
        have l1 := r.length
        have l2 := r2.length
        refine ⟨p, p2, vs, vs2, rfl, rfl, sub _ _ h, sub _ _ h2, by rw [l1, l2]; exact hz, fun q nq => ?_⟩
        have xx := Ext.new (O := fun _ => False) (o := .lst (vs ++ vs2)) sub nq
        exact k _ _ _ xx (.lst upd_same (by rw [List.length_append]; exact hz) ((r.append r2).mono xx.s))
      · cases e
    | _ => cases e
  | _ => cases e⟩
theorem o_catS : Op2 X (binaryOp .Add) catS := ⟨_, op_add_str, fun S H x y a b c Q sub ha hb e k => by
  cases ha with
  | str i =>
    cases hb with
    | str j =>
      have e : (if i.length + j.length ≤ sizeLine then some (D.str (i ++ j)) else none) = some c := e
      split at e
      · rename_i hz
        cases e
        exact ⟨i, j, rfl, rfl, hz, k _ S H (Ext.refl sub) (.str _)⟩
      · cases e
    | _ => cases e
  | _ => cases e⟩
/-- +, whatever is added -/
def addD : D → D → Option D
  | .int i, .int j => some (.int (i + j))
  | .tup xs, .tup ys => if xs.length + ys.length ≤ sizeLine then some (.tup (xs ++ ys)) else none
  | .lst xs, .lst ys => if xs.length + ys.length ≤ sizeLine then some (.lst (xs ++ ys)) else none
  | .str x, .str y => if x.length + y.length ≤ sizeLine then some (.str (x ++ y)) else none
  | _, _ => none
theorem Op2.imp {f : Value → Value → Sem Value} {g g' : D → D → Option D} (h : Op2 X f g) (hg : ∀ a b c, g' a b = some c → g a b = some c) : Op2 X f g' := by
  obtain ⟨r, o, k⟩ := h
  exact ⟨r, o, fun S H x y a b c Q sub ha hb e q => k S H x y a b c Q sub ha hb (hg a b c e) q⟩
theorem o_add : Op2 X (binaryOp .Add) addD := (((o_addI.or o_catT).or o_catL).or o_catS).imp fun a b c h => by
  cases a <;> cases b <;> first
    | exact (nomatch (show (none : Option D) = some c from h))
    | exact h
    | (simp only [addD] at h; simp only [addI, iop2, always, catT, catL, catS]; split at h <;> simp_all)
/-- a list times a number, a tuple times a number -/
def repD : D → D → Option D
  | .int i, .int j => if bits2 i j = true then some (.int (i * j)) else none
  | .lst xs, .int k => if -9223372036854775808 ≤ k ∧ k < 9223372036854775808 ∧ xs.length * k.toNat ≤ sizeLine then some (.lst (List.replicate k.toNat xs).flatten) else none
  | .tup xs, .int k => if xs ≠ [] ∧ 2 ≤ k ∧ k ≤ 1000 ∧ xs.length ≤ 1000 then some (.tup (List.replicate k.toNat xs).flatten) else none
  | _, _ => none
theorem AtL.rep {K : PySem.W.Frag} {vs : List V} {ds : List D} (h : AtL K S vs ds) : ∀ k : Nat, AtL K S (List.replicate k vs).flatten (List.replicate k ds).flatten
  | 0 => .nil
  | k + 1 => by
    rw [List.replicate_succ, List.replicate_succ, List.flatten_cons, List.flatten_cons]
    exact h.append (AtL.rep h k)
theorem rep_len {α : Type} (ds : List α) : ∀ k : Nat, (List.replicate k ds).flatten.length = k * ds.length
  | 0 => by simp
  | k + 1 => by rw [List.replicate_succ, List.flatten_cons, List.length_append, rep_len ds k]; rw [Nat.succ_mul]; omega
def repL : D → D → Option D
  | .lst xs, .int k => if -9223372036854775808 ≤ k ∧ k < 9223372036854775808 ∧ xs.length * k.toNat ≤ sizeLine then some (.lst (List.replicate k.toNat xs).flatten) else none
  | _, _ => none
def repT : D → D → Option D
  | .tup xs, .int k => if xs ≠ [] ∧ 2 ≤ k ∧ k ≤ 1000 ∧ xs.length ≤ 1000 then some (.tup (List.replicate k.toNat xs).flatten) else none
  | _, _ => none
theorem o_repL : Op2 X (binaryOp .Mult) repL := ⟨_, op_rep, fun S H x y a b c Q sub ha hb e k => by
  cases ha with
  | @lst p vs xs h z r =>
    cases hb with
    | int j =>
      have e : (if -9223372036854775808 ≤ j ∧ j < 9223372036854775808 ∧ xs.length * j.toNat ≤ sizeLine then some (D.lst (List.replicate j.toNat xs).flatten) else none) = some c := e
      split at e
      · rename_i hz
        cases e
        refine ⟨p, j, vs, rfl, rfl, sub _ _ h, by omega, by omega, by rw [r.length]; exact hz.2.2, fun q nq => ?_⟩
        have xx := Ext.new (O := fun _ => False) (o := .lst (List.replicate j.toNat vs).flatten) sub nq
        exact k _ _ _ xx (.lst upd_same (by rw [rep_len, Nat.mul_comm]; exact hz.2.2) ((r.rep _).mono xx.s))
      · cases e
    | _ => cases e
  | _ => cases e⟩
theorem o_repT : Op2 X (binaryOp .Mult) repT := ⟨_, op_repT, fun S H x y a b c Q sub ha hb e k => by
  cases ha with
  | @tup p vs xs h z r =>
    cases hb with
    | int j =>
      have e : (if xs ≠ [] ∧ 2 ≤ j ∧ j ≤ 1000 ∧ xs.length ≤ 1000 then some (D.tup (List.replicate j.toNat xs).flatten) else none) = some c := e
      split at e
      · rename_i hz
        cases e
        refine ⟨p, j, vs, rfl, rfl, sqT_mono sub h, fun q => ?_, hz.2.1, hz.2.2.1, by rw [r.length]; exact hz.2.2.2, fun q nq => ?_⟩
        · subst q
          cases r
          exact hz.1 rfl
        · have xx := Ext.new (O := fun _ => False) (o := .tup (List.replicate j.toNat vs).flatten) sub nq
          refine k _ _ _ xx (.tup (.inl (.inl upd_same)) ?_ ((r.rep _).mono xx.s))
          rw [rep_len, sizeLine_is]
          have h1 : j.toNat ≤ 1000 := by omega
          have h2 : xs.length ≤ 1000 := hz.2.2.2
          have := Nat.mul_le_mul h1 h2
          omega
      · cases e
    | _ => cases e
  | _ => cases e⟩
theorem o_mul : Op2 X (binaryOp .Mult) repD := ((o_mulI.or o_repL).or o_repT).imp fun a b c h => by
  cases a <;> cases b <;> first
    | exact (nomatch (show (none : Option D) = some c from h))
    | exact h
    | (simp only [repD] at h; simp only [mulI, iop2, repL, repT]; split at h <;> simp_all)
end
end SW

set_option maxRecDepth 100000
/-! SW8: a look (peek), subscripts, slices, built-ins, methods that turn an owned list. -/
namespace SW
open PySem PySem.Spec PyProof.Rows L2

def flatD : D → Bool
  | .non => true
  | .bl _ => true
  | .int _ => true
  | .str _ => true
  | .ty _ => true
  | _ => false
section
variable {K : PySem.W.Frag} {S S' H H' : Hp} {os : Os} {σ : Sg} {ρ : Rho}
/-- what owned cells hold stands for a while -/
structure Look (S H : Hp) (os : Os) (σ : Sg) (S1 : Hp) : Prop where
  s : Same S S1
  sh : Same S1 H
  out : ∀ a, ¬ Own os σ a → S1 a = S a
  own : ∀ a, Own os σ a → S1 a = H a
theorem freezeAll (r : Rel K S H os σ ρ) : ∃ S1, Look S H os σ S1 ∧ Rel K S1 H [] σ ρ := by
  classical
  have lk : Look S H os σ (fun a => if Own os σ a then H a else S a) := by
    refine ⟨fun a o e => ?_, fun a o e => ?_, fun a z => if_neg z, fun a z => if_pos z⟩
    · have no : ¬ Own os σ a := fun z => by rw [(r.owned z).1] at e; cases e
      show (if Own os σ a then H a else S a) = some o
      rw [if_neg no]; exact e
    · have e : (if Own os σ a then H a else S a) = some o := e
      by_cases z : Own os σ a
      · rw [if_pos z] at e; exact e
      · rw [if_neg z] at e; exact r.sub a o e
  refine ⟨_, lk, ⟨lk.sh, r.len, fun i x y e1 e2 => ?_, fun i j a h1 => by simp [List.getD] at h1⟩⟩
  have q := r.slot i x y e1 e2
  have hf : ([] : Os).getD i false = false := by simp [List.getD]
  rw [hf]
  cases ho : os.getD i false <;> rw [ho] at q <;> cases x <;> cases y <;> simp only [SlotAt] at q ⊢
  · exact q.mono lk.s
  · rename_i v d
    obtain ⟨a, ea, na, q⟩ := q
    subst ea
    have own : Own os σ a := ⟨i, ho, e1⟩
    obtain ⟨o, eh, bd⟩ := q
    exact (bd.mono lk.s).at ((lk.own a own).trans eh)
/-- nothing that the slots own has been touched: they own it still -/
theorem Look.back {S1 : Hp} (lk : Look S H os σ S1) (r : Rel K S H os σ ρ) (x : Ext (Own [] σ) S1 H S' H') : Rel K S H' os σ ρ ∧ Stp os σ S H os σ S H' := by
  have keep : ∀ a o, Own os σ a → H a = some o → H' a = some o := fun a o z e => x.sh a o (x.s a o ((lk.own a z).trans e))
  have sh : Same S H' := fun a o e => x.sh a o (x.s a o (lk.s a o e))
  refine ⟨⟨sh, r.len, fun i v d e1 e2 => ?_, r.sep⟩, ⟨⟨Same.refl _, sh, fun a o e n no => ⟨?_, n⟩, x.there⟩, fun a q => .inl q⟩⟩
  · have q := r.slot i v d e1 e2
    cases ho : os.getD i false <;> rw [ho] at q <;> cases v <;> cases d <;> simp only [SlotAt] at q ⊢
    · exact q
    · rename_i v d
      obtain ⟨a, ea, na, q⟩ := q
      subst ea
      have own : Own os σ a := ⟨i, ho, e1⟩
      refine ⟨a, rfl, na, ?_⟩
      obtain ⟨o, eh, bd⟩ := q
      exact ⟨o, keep a _ own eh, bd⟩
  · exact (x.fr a o e ((lk.out a no).trans n) fun z => own_nil z).1
theorem Look.exc {S1 : Hp} (lk : Look S H os σ S1) (x : Ext (Own [] σ) S1 H S' H') : Ext (Own os σ) S H S' H' :=
  ⟨lk.s.trans x.s, x.sh, fun a o e n no => x.fr a o e ((lk.out a no).trans n) fun z => own_nil z, x.there⟩
end

section
variable {X : Cx} {W : WX} {L : Lc} {os os1 os2 os3 osN : Os} {e e1 e2 : Expr} {f f1 f2 : Rho → Out (D × Rho)} {pos p apos : Pos} {es : List Expr} {g : Rho → Out (List D × Rho)}
def ePeek (f : Rho → Out (D × Rho)) : Rho → Out (D × Rho) := fun ρ => (f ρ).bind fun p => if flatD p.1 = true then .ok (p.1, ρ) else .stuck
def tPeek (f : Rho → Out (Bool × Rho)) : Rho → Out (Bool × Rho) := fun ρ => (f ρ).bind fun p => .ok (p.1, ρ)
theorem vt_peek {c : Expr} {g : Rho → Out (Bool × Rho)} (h : VT X W [] c g os1) (hos : os1 = [] := by rfl) : VT X W os c (tPeek g) os := by
  subst hos
  obtain ⟨t, p, k⟩ := h
  refine ⟨t, p, fun S σ H ρ Q rel P => ?_⟩
  obtain ⟨S1, lk, rel1⟩ := freezeAll rel
  refine k S1 σ H ρ Q rel1 ?_
  unfold tPeek at P
  cases h : g ρ with
  | exc c fs => rw [h] at P; exact fun S' H' cls dd x q => P S' H' cls dd (lk.exc x) q
  | stuck => rw [h] at P; exact P.elim
  | ok z =>
    obtain ⟨d, ρ'⟩ := z
    rw [h] at P
    intro v S' H' st _ hv
    obtain ⟨rel2, st2⟩ := lk.back rel st.ext
    exact P v S H' st2 rel2 hv

/-! ### subscripts -/
def strIx (z : Str) (i : Int) : Option D := if z.length ≤ sizeLine then (atI z.cps.toList i).map fun c => .str ⟨#[c]⟩ else none
def ixD : D → D → Option D
  | .lst ds, .int i => atI ds i
  | .tup ds, .int i => atI ds i
  | .scr ns, .int i => (atI ns i).map .int
  | .str z, .int i => strIx z i
  | _, _ => none
theorem atI_at {K : PySem.W.Frag} {S : Hp} {vs : List V} {ds : List D} {i : Int} {d : D} (r : AtL K S vs ds) (h : atI ds i = some d) : ∃ v, atI vs i = some v ∧ At K S v d := by
  unfold atI at h ⊢
  rw [r.length]
  cases e : ixN ds.length i with
  | none => rw [e] at h; cases h
  | some j => rw [e] at h; exact r.get h
theorem atI_map {α β : Type} {f : α → β} {xs : List α} {i : Int} : atI (xs.map f) i = (atI xs i).map f := by
  unfold atI
  rw [List.length_map]
  cases ixN xs.length i with
  | none => rfl
  | some j => simp
theorem ix_read {K : PySem.W.Frag} {S H : Hp} {x y : V} {a b c : D} {Q : VK} (sub : Same S H) (ha : At K S x a) (hb : At K S y b) (e : ixD a b = some c) (k : ∀ v, At K S v c → Q v H) : rIx K x y H Q := by
  cases hb with
  | int i =>
    cases ha with
    | @lst p vs ds h z r =>
      obtain ⟨v, ev, hv⟩ := atI_at r (show atI ds i = some c from e)
      exact .inl ⟨p, vs, i, v, rfl, rfl, .of (sub _ _ h), ev, k v hv⟩
    | @tup p vs ds h z r =>
      obtain ⟨v, ev, hv⟩ := atI_at r (show atI ds i = some c from e)
      exact .inr (.inl ⟨p, vs, i, v, rfl, rfl, sqT_mono sub h, ev, k v hv⟩)
    | @scr p ns h z =>
      have e : (atI ns i).map D.int = some c := e
      cases en : atI ns i with
      | none => rw [en] at e; cases e
      | some n =>
        rw [en] at e
        cases e
        exact .inl ⟨p, _, i, .int n, rfl, rfl, sub.seq h, by rw [atI_map, en]; rfl, k _ (.int n)⟩
    | str z =>
      have e : (if z.length ≤ sizeLine then (atI z.cps.toList i).map fun c => D.str ⟨#[c]⟩ else none) = some c := e
      split at e
      · rename_i hz
        cases en : atI z.cps.toList i with
        | none => rw [en] at e; cases e
        | some n =>
          rw [en] at e
          cases e
          exact .inr (.inr ⟨z, i, n, rfl, rfl, hz, en, k _ (.str _)⟩)
      · cases e
    | _ => cases e
  | _ => cases a <;> cases e
theorem ve_ix (ha : VE X W os e1 f1 os1 false) (hb : VE X W os1 e2 f2 os2 false) (hs : PlainIx e2 := by exact fun _ _ => rfl) : VE X W os (.Subscript e1 e2 pos) (eOp2 ixD f1 f2) os2 false := by
  obtain ⟨ta, pa, ka⟩ := ha
  obtain ⟨tb, pb, kb⟩ := hb
  refine ⟨_, pe_ix ix_seq pa pb hs, fun S σ H ρ Q rel P => ?_⟩
  refine ka S σ H ρ _ rel (Post.seq P (fun z => z) (fun c fs p => p) fun d ρ1 v S1 H1 st1 rel1 q1 P1 => ?_)
  have P1 := P1.step RV.ok st1
  refine kb S1 σ H1 ρ1 _ rel1 (Post.seq P1 (fun z => z) (fun c fs p => p) fun d2 ρ2 v2 S2 H2 st2 rel2 q2 P2 => ?_)
  obtain ⟨c, hc, k⟩ := post_of (P2.step RV.ok st2) rel2
  exact ix_read rel2.sub (At.mono st2.ext.s q1) q2 hc fun v hv => k v S2 H2 (Ext.refl rel2.sub) hv
/-- x[e], x an owning name -/
def eIxO (i : Nat) (f : Rho → Out (D × Rho)) : Rho → Out (D × Rho) := fun ρ => (f ρ).bind fun p => match p.2.getD i none with
  | some d => (Out.of (ixD d p.1)).bind fun c => .ok (c, p.2)
  | none => .stuck
theorem getD_some {ρ : Rho} {i : Nat} {d : D} (h : ρ.getD i none = some d) : ρ[i]? = some (some d) := by
  cases q : ρ[i]? with
  | none => simp [List.getD, q] at h
  | some y => simp [List.getD, q] at h; rw [h]
theorem ve_ixO (i : Nat) {x : Str} (hb : VE X W os e2 f2 os1 false) (ho : os.getD i false = true := by rfl) (ho1 : os1.getD i false = true := by rfl) (hN : X.N[i]? = some x := by rfl) (hv : Vis X.env.scope x := by first | exact Or.inl rfl | exact Or.inr (Or.inl rfl) | exact Or.inr (Or.inr rfl))
    (hs : PlainIx e2 := by exact fun _ _ => rfl) (hd : (x == ("__debug__" : Str)) = false := by decide) (hcd : (x == ("__classdict__" : Str)) = false := by decide) : VE X W os (.Subscript (.Name x p) e2 pos) (fun ρ => match ρ.getD i none with | some _ => eIxO i f2 ρ | none => .stuck) os1 false := by
  obtain ⟨tb, pb, kb⟩ := hb
  refine ⟨_, pe_ix ix_seq (pe_var hN hv hd hcd) pb hs, fun S σ H ρ Q rel P => ?_⟩
  cases h0 : ρ.getD i none with
  | none => dsimp only at P; rw [h0] at P; exact P.elim
  | some d0 =>
    dsimp only at P; rw [h0] at P
    obtain ⟨v, ev, _⟩ := rel.own (getD_some h0) ho
    refine ⟨v, ev, ?_⟩
    refine kb S σ H ρ _ rel (Post.seq P (fun z => z) (fun c fs p => p) fun d2 ρ2 v2 S2 H2 st2 rel2 q2 P2 => ?_)
    have P2 := P2.step RV.ok st2
    dsimp only at P2
    cases h1 : ρ2.getD i none with
    | none => rw [h1] at P2; exact P2.elim
    | some d1 =>
      rw [h1] at P2
      obtain ⟨v', ev', hown⟩ := rel2.own (getD_some h1) ho1
      rw [ev] at ev'
      cases ev'
      obtain ⟨c, hc, k⟩ := post_of P2 rel2
      obtain ⟨a, ea, na, q⟩ := hown
      subst ea
      have q2 : At X.K S2 v2 d2 := q2
      obtain ⟨o, eh, bd⟩ := q
      cases bd with
      | @lst vs ds z rl =>
        cases q2 with
        | int j =>
          obtain ⟨w, ew, hw⟩ := atI_at rl (show atI ds j = some c from hc)
          exact .inl ⟨a, vs, j, w, rfl, rfl, .of eh, ew, k w S2 H2 (Ext.refl rel2.sub) hw⟩
        | _ => cases hc
      | _ => cases q2 <;> cases hc

/-! ### slices -/
def VO (X : Cx) (W : WX) (os : Os) (e : Option Expr) (f : Rho → Out (Option Int × Rho)) (os' : Os) : Prop :=
  ∃ t, PO X e t ∧ ∀ S σ H ρ Q, Rel X.K S H os σ ρ → Post X W S H os σ os' (fun _ _ _ b d => b = d) Q (f ρ) → t σ H Q
def oNone : Rho → Out (Option Int × Rho) := fun ρ => .ok (none, ρ)
def oSome (f : Rho → Out (D × Rho)) : Rho → Out (Option Int × Rho) := fun ρ => (f ρ).bind fun p => match p.1 with
  | .int i => .ok (some i, p.2)
  | _ => .stuck
theorem rid_ok {α : Type} : RR.Ok (fun _ _ _ (b d : α) => b = d) := fun _ _ _ _ _ _ _ q => q
theorem vo_none : VO X W os none oNone os := ⟨_, po_none, fun S σ H ρ Q rel P => P.fin (os' := os) rel rfl⟩
theorem vo_some (h : VE X W os e f os1 false) : VO X W os (some e) (oSome f) os1 := by
  obtain ⟨t, p, k⟩ := h
  refine ⟨_, po_some p, fun S σ H ρ Q rel P => ?_⟩
  refine k S σ H ρ _ rel (Post.seq P (fun z => z) (fun c fs p => p) fun d ρ1 v S1 H1 st1 rel1 q1 P1 => ?_)
  cases q1 with
  | int i => exact ⟨i, rfl, (P1.step rid_ok st1).fin (os' := os1) rel1 rfl⟩
  | _ => exact P1.elim
def cutD (xs : List D) (lo hi : Option Int) : List D := (xs.drop (HT.sIx xs.length 0 lo)).take (HT.sIx xs.length xs.length hi - HT.sIx xs.length 0 lo)
theorem AtL.cut {K : PySem.W.Frag} {S : Hp} {vs : List V} {ds : List D} (r : AtL K S vs ds) (lo hi : Option Int) : AtL K S (cutV vs lo hi) (cutD ds lo hi) := by
  unfold cutV cutD
  rw [r.length]
  exact (r.drop _).take _
theorem cutD_len (xs : List D) (lo hi : Option Int) : (cutD xs lo hi).length ≤ xs.length := by
  unfold cutD
  rw [List.length_take, List.length_drop]
  omega
theorem cut_whole {α : Type} (xs : List α) {lo hi : Option Int} (h : HT.sIx xs.length 0 lo = 0 ∧ HT.sIx xs.length xs.length hi = xs.length) : (xs.drop (HT.sIx xs.length 0 lo)).take (HT.sIx xs.length xs.length hi - HT.sIx xs.length 0 lo) = xs := by
  rw [h.1, h.2]
  simp
def sliceD : D → Option Int → Option Int → Option D
  | .lst xs, lo, hi => some (.lst (cutD xs lo hi))
  | .tup xs, lo, hi => some (.tup (cutD xs lo hi))
  | .scr ns, lo, hi => some (.lst (cutD (ns.map .int) lo hi))
  | _, _, _ => none
def eSlice (f : Rho → Out (D × Rho)) (fl fh : Rho → Out (Option Int × Rho)) : Rho → Out (D × Rho) := fun ρ =>
  (f ρ).bind fun p => (fl p.2).bind fun l => (fh l.2).bind fun h => (Out.of (sliceD p.1 l.1 h.1)).bind fun c => .ok (c, h.2)
theorem ve_slice {lo hi : Option Expr} {fl fh : Rho → Out (Option Int × Rho)} {p2 : Pos} (ha : VE X W os e f os1 false) (hl : VO X W os1 lo fl os2) (hh : VO X W os2 hi fh os3) : VE X W os (.Subscript e (.Slice lo hi none p2) pos) (eSlice f fl fh) os3 false := by
  obtain ⟨ta, pa, ka⟩ := ha
  obtain ⟨tl, pl, kl⟩ := hl
  obtain ⟨th, ph, kh⟩ := hh
  refine ⟨_, pe_slice (sl_list.or sl_tupA) pa pl ph, fun S σ H ρ Q rel P => ?_⟩
  refine ka S σ H ρ _ rel (Post.seq P (fun z => z) (fun c fs p => p) fun d ρ1 v S1 H1 st1 rel1 q1 P1 => ?_)
  have P1 := P1.step RV.ok st1
  refine kl S1 σ H1 ρ1 _ rel1 (Post.seq P1 (fun z => z) (fun c fs p => p) fun l ρ2 v2 S2 H2 st2 rel2 q2 P2 => ?_)
  have P2 := P2.step RV.ok st2
  refine kh S2 σ H2 ρ2 _ rel2 (Post.seq P2 (fun z => z) (fun c fs p => p) fun h ρ3 v3 S3 H3 st3 rel3 q3 P3 => ?_)
  cases q2; cases q3
  obtain ⟨c, hc, k⟩ := post_of (P3.step RV.ok st3) rel3
  have q1 : At X.K S3 v d := (At.mono st2.ext.s q1).mono st3.ext.s
  cases q1 with
  | @lst a vs ds hs z r =>
    cases hc
    refine .inl ⟨a, vs, rfl, .of (rel3.sub _ _ hs), fun q nq => ?_⟩
    have xx := Ext.new (O := fun _ => False) (o := .lst (cutV vs l h)) rel3.sub nq
    exact k _ _ _ xx (.lst upd_same (Nat.le_trans (cutD_len _ _ _) z) ((r.cut l h).mono xx.s))
  | @scr a ns hs z =>
    cases hc
    refine .inl ⟨a, _, rfl, rel3.sub.seq hs, fun q nq => ?_⟩
    have xx := Ext.new (O := fun _ => False) (o := .lst (cutV (ns.map V.int) l h)) rel3.sub nq
    exact k _ _ _ xx (.lst upd_same (Nat.le_trans (cutD_len _ _ _) (by rw [List.length_map]; exact z)) (((AtL.ints ns).cut l h).mono xx.s))
  | @tup a vs ds hs z r =>
    cases hc
    have hl := r.length
    refine .inr ⟨a, vs, rfl, sqT_mono rel3.sub hs, fun hw => ?_, fun hw q nq => ?_⟩
    · refine k _ S3 H3 (Ext.refl rel3.sub) ?_
      have e : cutD ds l h = ds := cut_whole ds (by rw [← hl]; exact hw)
      rw [e]
      exact .tup hs z r
    · have xx := Ext.new (O := fun _ => False) (o := .tup (cutV vs l h)) rel3.sub nq
      exact k _ _ _ xx (.tup (.inl (.inl upd_same)) (Nat.le_trans (cutD_len _ _ _) z) ((r.cut l h).mono xx.s))
  | _ => cases hc

/-! ### built-ins -/
def CallD (X : Cx) (f : Value) (h : List D → Option D) : Prop :=
  ∃ r, CallR X f r ∧ ∀ S H vs ds c Q, Same S H → AtL X.K S vs ds → h ds = some c → (∀ v S' H', Ext (fun _ => False) S H S' H' → At X.K S' v c → Q v H') → r vs H Q
theorem CallD.or {fv : Value} {h1 h2 : List D → Option D} (a : CallD X fv h1) (b : CallD X fv h2) : CallD X fv (fun ds => match h1 ds with | some c => some c | none => h2 ds) := by
  obtain ⟨r1, o1, k1⟩ := a
  obtain ⟨r2, o2, k2⟩ := b
  refine ⟨fun vs H Q => r1 vs H Q ∨ r2 vs H Q, fun pins s σ H xs us Q I r q => q.elim (o1 pins s σ H xs us Q I r) (o2 pins s σ H xs us Q I r), fun S H vs ds c Q sub ha e k => ?_⟩
  dsimp only at e
  cases e1 : h1 ds with
  | some c1 => rw [e1] at e; cases e; exact .inl (k1 S H vs ds _ Q sub ha e1 k)
  | none => rw [e1] at e; exact .inr (k2 S H vs ds c Q sub ha e k)
theorem ve_callB {x : Str} {id : String} {h : List D → Option D} (hc : CallD X (.builtin id) h) (ha : VA X W os (e :: es) g os1) (hm : X.mg x = none) (hv : bootBuiltins x = some (.builtin id)) (hg : Gl X x := by rfl) (hn : x ≠ "__name__" := by decide) (hdb : (x == ("__debug__" : Str)) = false := by decide)
    (he : starEach (e :: es) X.env = (false, eval e X.env) :: starEach es X.env := by rfl) (hpl : (backTo pos (starEach es X.env)).any (·.1) = false := by rfl) : VE X W os (.Call (.Name x p) (e :: es) [] pos) (eArg h g) os1 false := by
  obtain ⟨ta, pa, ka⟩ := ha
  obtain ⟨r, pc, kc⟩ := hc
  refine ⟨_, pe_callB pc hg hm hv pa hn hdb he hpl, fun S σ H ρ Q rel P => ?_⟩
  refine ka S σ H ρ _ rel (Post.seq P (fun z => z) (fun c fs p => p) fun ds ρ1 vs S1 H1 st1 rel1 q1 P1 => ?_)
  obtain ⟨c, hcc, k⟩ := post_of (P1.step RV.ok st1) rel1
  exact kc S1 H1 vs ds c _ rel1.sub q1.1 hcc k
theorem ve_callTy {x : Str} {T : String} {h : List D → Option D} (hc : CallD X (.type T) h) (ha : VA X W os (e :: es) g os1) (hm : X.mg x = none) (hv : bootBuiltins x = some (.type T)) (hg : Gl X x := by rfl) (hn : x ≠ "__name__" := by decide) (hdb : (x == ("__debug__" : Str)) = false := by decide)
    (he : starEach (e :: es) X.env = (false, eval e X.env) :: starEach es X.env := by rfl) (hpl : (backTo pos (starEach es X.env)).any (·.1) = false := by rfl) : VE X W os (.Call (.Name x p) (e :: es) [] pos) (eArg h g) os1 false := by
  obtain ⟨ta, pa, ka⟩ := ha
  obtain ⟨r, pc, kc⟩ := hc
  refine ⟨_, pe_callTy pc hg hm hv pa hn hdb he hpl, fun S σ H ρ Q rel P => ?_⟩
  refine ka S σ H ρ _ rel (Post.seq P (fun z => z) (fun c fs p => p) fun ds ρ1 vs S1 H1 st1 rel1 q1 P1 => ?_)
  obtain ⟨c, hcc, k⟩ := post_of (P1.step RV.ok st1) rel1
  exact kc S1 H1 vs ds c _ rel1.sub q1.1 hcc k
/-- a built-in class as a value -/
theorem ve_ty {x : Str} {T : Tc} (hm : X.mg x = none) (hv : bootBuiltins x = some (.type T.nm)) (hg : Gl X x := by rfl) (hn : x ≠ "__name__" := by decide) (hdb : (x == ("__debug__" : Str)) = false := by decide) : VE X W os (.Name x p) (eCon (.ty T)) os false :=
  ⟨_, pe_bltn (v := .ty T.nm) hg hm hv rfl hn hdb, fun S σ H ρ Q rel P => P.fin (os' := os) rel (.ty T rfl)⟩

def lenD : List D → Option D
  | [.lst ds] => some (.int ds.length)
  | [.tup ds] => some (.int ds.length)
  | [.scr ns] => some (.int ns.length)
  | [.str x] => if x.length ≤ sizeLine then some (.int x.length) else none
  | _ => none
theorem c_len : CallD X (.builtin "len") lenD := ⟨_, call_len, fun S H vs ds c Q sub ha e k => by
  match ds, vs, ha, e with
  | [d], [v], .cons h .nil, e =>
    cases h with
    | @lst a ws es h z r =>
      cases e
      exact ⟨_, _, rfl, .inl ⟨ws, .of (sub _ _ h), rfl⟩, k _ S H (Ext.refl sub) (by rw [r.length]; exact .int _)⟩
    | @tup a ws es h z r =>
      cases e
      exact ⟨_, _, rfl, .inr ⟨ws, sqT_mono sub h, rfl⟩, k _ S H (Ext.refl sub) (by rw [r.length]; exact .int _)⟩
    | @scr a ns h z =>
      cases e
      exact ⟨_, _, rfl, .inl ⟨_, sub.seq h, rfl⟩, k _ S H (Ext.refl sub) (by rw [List.length_map]; exact .int _)⟩
    | str x =>
      have e : (if x.length ≤ sizeLine then some (D.int x.length) else none) = some c := e
      split at e
      · rename_i hz
        cases e
        exact ⟨_, x.length, rfl, ⟨hz, rfl⟩, k _ S H (Ext.refl sub) (.int _)⟩
      · cases e
    | _ => cases e
  | [], _, _, e => cases e
  | _ :: _ :: _, _, _, e => exact absurd e (by simp [lenD])⟩
/-- a datum's class; NoneType is none -/
def tyOf : D → Option Tc
  | .non => none
  | .bl _ => some .bool
  | .int _ => some .int
  | .str _ => some .str
  | .tup _ => some .tuple
  | .lst _ => some .list
  | .scr _ => some .list
  | .dct _ => some .dict
  | .ty _ => none
  | .ins _ _ => none
  | .exc _ _ => none
/-- what isinstance looks at -/
def isiOk : D → Bool
  | .ty _ => false
  | .dct _ => false
  | .ins _ _ => false
  | .exc _ _ => false
  | _ => true
def Tc.eq : Tc → Tc → Bool
  | .int, .int => true
  | .bool, .bool => true
  | .tuple, .tuple => true
  | .list, .list => true
  | .str, .str => true
  | .dict, .dict => true
  | .bool, .int => true
  | _, _ => false
def isTy : Option Tc → Tc → Bool
  | none, _ => false
  | some a, b => Tc.eq a b
def isiD : List D → Option D
  | [d, .ty n] => if isiOk d = true then some (.bl (isTy (tyOf d) n)) else none
  | _ => none
def nmO : Option Tc → String
  | none => "NoneType"
  | some t => t.nm
theorem kit_at (a : Option Tc) (b : Tc) : kitB (nmO a) b.nm = some (isTy a b) := by
  cases a with
  | none => cases b <;> decide +kernel
  | some a => cases a <;> cases b <;> decide +kernel
theorem tyx_of {K : PySem.W.Frag} {S H : Hp} {v : V} {d : D} (sub : Same S H) (h : At K S v d) (hd : isiOk d = true) : TyX K H v (.type (nmO (tyOf d))) := by
  cases h with
  | non => exact .base .non
  | bl b => exact .base (.bl b)
  | int i => exact .base (.int i)
  | str x => exact .base (.str x)
  | tup h z r =>
    rcases h with (h | ⟨o, h⟩) | ⟨o, its, n, hk, hc, _⟩
    · exact .base (.tup (sub _ _ h))
    · exact .fTuple (sub _ _ h)
    · exact .kTuple hk hc
  | lst h z r => exact .base (.lst (sub _ _ h))
  | dct h k z r => cases hd
  | ins _ _ _ _ _ => cases hd
  | exc0 _ _ => cases hd
  | exc1 _ _ _ _ => cases hd
  | scr h z =>
    rcases h with (h | ⟨o, h⟩) | ⟨o, its, n, hk, hc, _⟩
    · exact .base (.lst (sub _ _ h))
    · exact .base (.frz (sub _ _ h))
    · exact .kList hk hc
  | ty n _ => cases hd
theorem isiD_some {ds : List D} {c : D} (h : isiD ds = some c) : ∃ d n, ds = [d, .ty n] ∧ isiOk d = true ∧ c = .bl (isTy (tyOf d) n) := by
  unfold isiD at h
  split at h
  · rename_i d n
    split at h
    · rename_i hd
      cases h
      exact ⟨d, n, rfl, hd, rfl⟩
    · cases h
  · cases h
theorem c_isi : CallD X (.builtin "isinstance") isiD := ⟨_, call_isi, fun S H vs ds c Q sub ha e k => by
  obtain ⟨d, n, rfl, hd, rfl⟩ := isiD_some e
  match vs, ha with
  | [v, _], .cons h (.cons (.ty _ hn) .nil) =>
    subst hn
    exact ⟨v, .ty n.nm, _, _, isTy (tyOf d) n, rfl, .ty n.nm, tyx_of sub h hd, kit_ty (kit_at _ _), k _ S H (Ext.refl sub) (.bl _)⟩⟩
def absD : List D → Option D
  | [.int i] => some (.int (if i < 0 then -i else i))
  | _ => none
theorem c_abs : CallD X (.builtin "abs") absD := ⟨_, call_abs, fun S H vs ds c Q sub ha e k => by
  match ds, vs, ha, e with
  | [.int i], [_], .cons (.int _) .nil, e => cases e; exact ⟨i, rfl, k _ S H (Ext.refl sub) (.int _)⟩
  | [], _, _, e => cases e
  | _ :: _ :: _, _, _, e => exact absurd e (by simp [absD])
  | [.non], _, _, e => cases e
  | [.bl _], _, _, e => cases e
  | [.str _], _, _, e => cases e
  | [.tup _], _, _, e => cases e
  | [.lst _], _, _, e => cases e
  | [.dct _], _, _, e => cases e
  | [.scr _], _, _, e => cases e
  | [.ty _], _, _, e => cases e
  | [.ins _ _], _, _, e => cases e
  | [.exc _ _], _, _, e => cases e⟩
def mm2 (mx : Bool) : List D → Option D
  | [.int i, .int j] => some (.int (if mx = true then (if j > i then j else i) else (if j < i then j else i)))
  | _ => none
theorem mm2_two {mx : Bool} {ds : List D} {c : D} (h : mm2 mx ds = some c) : ∃ i j, ds = [.int i, .int j] ∧ c = .int (if mx = true then (if j > i then j else i) else (if j < i then j else i)) := by
  unfold mm2 at h
  split at h
  · cases h; exact ⟨_, _, rfl, rfl⟩
  · cases h
theorem c_max2 (hc : X.calm = true) : CallD X (.builtin "max") (mm2 true) := ⟨_, call_max2 hc, fun S H vs ds c Q sub ha e k => by
  obtain ⟨i, j, rfl, rfl⟩ := mm2_two e
  match vs, ha with
  | [_, _], .cons (.int _) (.cons (.int _) .nil) => exact ⟨i, j, rfl, k _ S H (Ext.refl sub) (.int _)⟩⟩
theorem c_min2 (hc : X.calm = true) : CallD X (.builtin "min") (mm2 false) := ⟨_, call_min2 hc, fun S H vs ds c Q sub ha e k => by
  obtain ⟨i, j, rfl, rfl⟩ := mm2_two e
  match vs, ha with
  | [_, _], .cons (.int _) (.cons (.int _) .nil) => exact ⟨i, j, rfl, k _ S H (Ext.refl sub) (.int _)⟩⟩
/-- a list of whole numbers -/
def intsOf : List D → Option (List Int)
  | [] => some []
  | .int i :: ds => (intsOf ds).map (i :: ·)
  | _ => none
theorem intsOf_map {K : PySem.W.Frag} {S : Hp} : ∀ {vs : List V} {ds : List D} {ns : List Int}, AtL K S vs ds → intsOf ds = some ns → vs = ns.map V.int
  | _, _, _, .nil, e => by cases e; rfl
  | _, .int i :: ds, _, .cons (.int _) r, e => by
    unfold intsOf at e
    cases q : intsOf ds with
    | none => rw [q] at e; cases e
    | some ms => rw [q] at e; cases e; rw [intsOf_map r q]; rfl
  | _, .non :: _, _, .cons _ _, e => by cases e
  | _, .bl _ :: _, _, .cons _ _, e => by cases e
  | _, .str _ :: _, _, .cons _ _, e => by cases e
  | _, .tup _ :: _, _, .cons _ _, e => by cases e
  | _, .lst _ :: _, _, .cons _ _, e => by cases e
  | _, .dct _ :: _, _, .cons _ _, e => by cases e
  | _, .scr _ :: _, _, .cons _ _, e => by cases e
  | _, .ty _ :: _, _, .cons _ _, e => by cases e
  | _, .ins _ _ :: _, _, .cons _ _, e => by cases e
  | _, .exc _ _ :: _, _, .cons _ _, e => by cases e
def listMax : List Int → Int
  | [] => 0
  | [x] => x
  | x :: y :: r => max x (listMax (y :: r))
def listMin : List Int → Int
  | [] => 0
  | [x] => x
  | x :: y :: r => min x (listMin (y :: r))
theorem listMax_mem : ∀ {ns : List Int}, ns ≠ [] → listMax ns ∈ ns ∧ ∀ y ∈ ns, y ≤ listMax ns
  | [], h => (h rfl).elim
  | [x], _ => by simp [listMax]
  | x :: y :: r, _ => by
    obtain ⟨h1, h2⟩ := listMax_mem (ns := y :: r) (by simp)
    unfold listMax
    refine ⟨?_, fun z hz => ?_⟩
    · by_cases h : x ≤ listMax (y :: r)
      · rw [Int.max_eq_right h]; exact List.mem_cons_of_mem _ h1
      · rw [Int.max_eq_left (by omega)]; exact List.mem_cons_self
    · rcases List.mem_cons.mp hz with rfl | hz
      · exact Int.le_max_left _ _
      · exact Int.le_trans (h2 z hz) (Int.le_max_right _ _)
theorem listMin_mem : ∀ {ns : List Int}, ns ≠ [] → listMin ns ∈ ns ∧ ∀ y ∈ ns, listMin ns ≤ y
  | [], h => (h rfl).elim
  | [x], _ => by simp [listMin]
  | x :: y :: r, _ => by
    obtain ⟨h1, h2⟩ := listMin_mem (ns := y :: r) (by simp)
    unfold listMin
    refine ⟨?_, fun z hz => ?_⟩
    · by_cases h : x ≤ listMin (y :: r)
      · rw [Int.min_eq_left h]; exact List.mem_cons_self
      · rw [Int.min_eq_right (by omega)]; exact List.mem_cons_of_mem _ h1
    · rcases List.mem_cons.mp hz with rfl | hz
      · exact Int.min_le_left _ _
      · exact Int.le_trans (Int.min_le_right _ _) (h2 z hz)
def onInts (p : List Int → Bool) (h : List Int → D) : List D → Option D
  | [.lst ds] => match intsOf ds with
    | some ns => if p ns = true then some (h ns) else none
    | none => none
  | _ => none
theorem onInts_some {p : List Int → Bool} {h : List Int → D} {K : PySem.W.Frag} {S H : Hp} {vs : List V} {ds : List D} {c : D} (sub : Same S H) (ha : AtL K S vs ds) (e : onInts p h ds = some c) : ∃ a ns, vs = [.ref a] ∧ SqL K H a (ns.map V.int) ∧ p ns = true ∧ c = h ns := by
  unfold onInts at e
  split at e
  · rename_i ds'
    match vs, ha with
    | [_], .cons (.lst (a := a) (vs := ws) hs z r) .nil =>
      cases q : intsOf ds' with
      | none => rw [q] at e; cases e
      | some ns =>
        rw [q] at e
        dsimp only at e
        split at e
        · rename_i hp
          cases e
          exact ⟨a, ns, rfl, by rw [← intsOf_map r q]; exact .of (sub _ _ hs), hp, rfl⟩
        · cases e
  · cases e
def maxD := onInts (fun ns => !ns.isEmpty) fun ns => .int (listMax ns)
def minD := onInts (fun ns => !ns.isEmpty) fun ns => .int (listMin ns)
theorem ne_of_isEmpty {ns : List Int} (h : (!ns.isEmpty) = true) : ns ≠ [] := fun z => by subst z; cases h
theorem c_max (hc : X.calm = true) : CallD X (.builtin "max") maxD := ⟨_, cr_max hc, fun S H vs ds c Q sub ha e k => by
  obtain ⟨a, ns, rfl, hs, hp, rfl⟩ := onInts_some sub ha e
  have hn := ne_of_isEmpty hp
  refine ⟨a, ns, rfl, hs, List.length_pos_iff.mpr hn, fun m hm hy => ?_⟩
  obtain ⟨h1, h2⟩ := listMax_mem hn
  have em : m = listMax ns := Int.le_antisymm (h2 m hm) (hy _ h1)
  rw [em]
  exact k _ S H (Ext.refl sub) (.int _)⟩
theorem c_min (hc : X.calm = true) : CallD X (.builtin "min") minD := ⟨_, cr_min hc, fun S H vs ds c Q sub ha e k => by
  obtain ⟨a, ns, rfl, hs, hp, rfl⟩ := onInts_some sub ha e
  have hn := ne_of_isEmpty hp
  refine ⟨a, ns, rfl, hs, List.length_pos_iff.mpr hn, fun m hm hy => ?_⟩
  obtain ⟨h1, h2⟩ := listMin_mem hn
  have em : m = listMin ns := Int.le_antisymm (hy _ h1) (h2 m hm)
  rw [em]
  exact k _ S H (Ext.refl sub) (.int _)⟩
def maxA : List D → Option D := fun ds => match maxD ds with | some c => some c | none => mm2 true ds
def minA : List D → Option D := fun ds => match minD ds with | some c => some c | none => mm2 false ds
theorem c_maxA (hc : X.calm = true) : CallD X (.builtin "max") maxA := (c_max hc).or (c_max2 hc)
theorem c_minA (hc : X.calm = true) : CallD X (.builtin "min") minA := (c_min hc).or (c_min2 hc)
/-- tuple(..) -/
def tupleD : List D → Option D
  | [.lst ds] => some (.tup ds)
  | [.tup ds] => some (.tup ds)
  | _ => none
theorem c_tuple : CallD X (.type "tuple") tupleD := ⟨_, call_tuple_of, fun S H vs ds c Q sub ha e k => by
  unfold tupleD at e
  split at e
  · match vs, ha with
    | [_], .cons (.lst (a := a) (vs := ws) hs z r) .nil =>
      cases e
      refine ⟨a, ws, rfl, .inl ⟨.of (sub _ _ hs), fun l nl => ?_⟩⟩
      have xx := Ext.new (O := fun _ => False) (o := .tup ws) sub nl
      exact k _ _ _ xx (.tup (.inl (.inl upd_same)) z (r.mono xx.s))
  · match vs, ha with
    | [_], .cons (.tup (a := a) (vs := ws) hs z r) .nil =>
      cases e
      exact ⟨a, ws, rfl, .inr ⟨sqT_mono sub hs, k _ S H (Ext.refl sub) (.tup hs z r)⟩⟩
  · cases e⟩
end
end SW

set_option maxRecDepth 100000
/-! SW9: list(..), stores into an owned list, methods that turn an owned list. -/
namespace SW
open PySem PySem.Spec PyProof.Rows L2
section
variable {X : Cx} {W : WX} {L : Lc} {os os1 os2 os3 osN : Os} {e e1 e2 : Expr} {f f1 f2 : Rho → Out (D × Rho)} {pos p apos : Pos} {es : List Expr} {g : Rho → Out (List D × Rho)}
def listD : List D → Option D
  | [.lst ds] => some (.lst ds)
  | [.tup ds] => some (.lst ds)
  | [.scr ns] => some (.lst (ns.map .int))
  | _ => none
/-- list(x), x an owning name: a new list of the same things -/
theorem ve_listO (i : Nat) {x y : Str} {p2 : Pos} (hx : x = "list") (hm : X.mg x = none) (ho : os.getD i false = true := by rfl) (hN : X.N[i]? = some y := by rfl) (hv : Vis X.env.scope y := by first | exact Or.inl rfl | exact Or.inr (Or.inl rfl) | exact Or.inr (Or.inr rfl)) (hg : Gl X x := by rfl)
    (hd : (y == ("__debug__" : Str)) = false := by decide) (hcd : (y == ("__classdict__" : Str)) = false := by decide)
    (he : starEach [.Name y p2] X.env = (false, eval (.Name y p2) X.env) :: starEach [] X.env := by rfl) (hpl : (backTo pos (starEach [] X.env)).any (·.1) = false := by rfl) :
    VE X W os (.Call (.Name x p) [.Name y p2] [] pos) (eArg listD (aCons (eVar i) aNil)) os true := by
  subst hx
  refine ⟨_, pe_callTy call_list_of hg hm (by decide +kernel) (pa_cons (pe_var hN hv hd hcd) pa_nil he) (by decide) (by decide) he hpl, fun S σ H ρ Q rel P => ?_⟩
  unfold eArg aCons eVar aNil at P
  cases h : ρ.getD i none with
  | none => rw [h] at P; exact P.elim
  | some d =>
    rw [h] at P
    obtain ⟨v, ev, q⟩ := rel.own (getD_some h) ho
    obtain ⟨a, ea, na, q⟩ := q
    subst ea
    obtain ⟨o, eh, bd⟩ := q
    cases bd with
    | @lst vs ds z rl =>
      refine ⟨.ref a, ev, a, vs, rfl, .inl (.of eh), fun l nl => ?_⟩
      have xx := Ext.newO (O := fun _ => False) (o := .lst vs) rel.sub nl
      exact P (.ref l) S (upd H l (.lst vs)) (Stp.of_ext xx) (rel.ext0 xx) ⟨.mkL (rel.sub.free nl) upd_same (z) (rl), fun a e => by cases e; exact nl⟩
    | _ => exact P.elim
/-- x[lo:hi] of a list: a new list that is owned -/
def sliceL : D → Option Int → Option Int → Option D
  | .lst xs, lo, hi => some (.lst (cutD xs lo hi))
  | .scr ns, lo, hi => some (.lst (cutD (ns.map .int) lo hi))
  | _, _, _ => none
def eSliceL (f : Rho → Out (D × Rho)) (fl fh : Rho → Out (Option Int × Rho)) : Rho → Out (D × Rho) := fun ρ =>
  (f ρ).bind fun p => (fl p.2).bind fun l => (fh l.2).bind fun h => (Out.of (sliceL p.1 l.1 h.1)).bind fun c => .ok (c, h.2)
/-! ### an owned list is turned -/
def sSetIx (i : Nat) (f fi : Rho → Out (D × Rho)) : Rho → Out Fl := fun ρ => (f ρ).bind fun p => match p.2.getD i none with
  | none => .stuck
  | some _ => (fi p.2).bind fun q => match q.2.getD i none, q.1 with
    | some (.lst ds), .int k => (match ixN ds.length k with
      | some j => .ok (.nx (q.2.set i (some (.lst (ds.set j p.1)))))
      | none => .stuck)
    | _, _ => .stuck
theorem turnL {S H : Hp} {σ : Sg} {ρ : Rho} {i : Nat} {a : Addr} {vs : List V} {ds : List D} (rel : Rel X.K S H os σ ρ) (ho : os.getD i false = true) (ev : σ[i]? = some (some (.ref a))) (na : S a = none) (z : ds.length ≤ sizeLine) (r : AtL X.K S vs ds) :
    Rel X.K S (upd H a (.lst vs)) os σ (ρ.set i (some (.lst ds))) ∧ Stp os σ S H os σ S (upd H a (.lst vs)) :=
  ⟨rel.turn ho ev (.mkL na upd_same z r), Stp.turn rel ho ev⟩
theorem vs_setIx (i : Nat) {x : Str} {px ps : Pos} {ie : Expr} {fi : Rho → Out (D × Rho)} (hv : VE X W os e f os1 false) (hi : VE X W os1 ie fi os2 false) (ho1 : os1.getD i false = true := by rfl) (ho2 : os2.getD i false = true := by rfl) (hN : X.N[i]? = some x := by rfl)
    (hvis : Vis X.env.scope x := by first | exact Or.inl rfl | exact Or.inr (Or.inl rfl) | exact Or.inr (Or.inr rfl)) (hd : (x == ("__debug__" : Str)) = false := by decide) (hcd : (x == ("__classdict__" : Str)) = false := by decide)
    (ha : ∀ v, assign (.Subscript (.Name x px) ie ps) X.env v = (do
      let ov ← holding [v] (eval (.Name x px) X.env)
      let iv ← holding [v, ov] (eval ie X.env)
      standAt ps
      holding [v, ov, iv] (setItem ov iv v)
      release [v, ov, iv] []) := by intro _; rfl) (hs : swapsWithSole [.Subscript (.Name x px) ie ps] e pos.line X.env = pure false := by rfl) (hw : swappedStores [.Subscript (.Name x px) ie ps] e X.env = pure none := by rfl)
    (h1 : (assignEach [.Subscript (.Name x px) ie ps] X.env).map (·.2) = [assign (.Subscript (.Name x px) ie ps) X.env] := by rfl) :
    VS X W L os (.Assign [.Subscript (.Name x px) ie ps] e pos) (sSetIx i f fi) os2 := by
  obtain ⟨t, pt, kt⟩ := hv
  obtain ⟨ti, pi, ki⟩ := hi
  refine ⟨_, ps_asg pt (pg_sub (pe_var hN hvis hd hcd) pi set_list ha) hs hw h1, fun S σ H ρ Ds rel P => ?_⟩
  refine kt S σ H ρ _ rel (PostS.seqE P fun d ρ1 v S1 H1 s1 r1 q1 P1 => ?_)
  have q1 : At X.K S1 v d := q1
  dsimp only at P1
  cases hx : ρ1.getD i none with
  | none => rw [hx] at P1; exact P1.elim
  | some d1 =>
    rw [hx] at P1
    obtain ⟨u, eu, _⟩ := r1.own (getD_some hx) ho1
    refine ⟨u, eu, ?_⟩
    refine ki S1 σ H1 ρ1 _ r1 (PostS.seqE P1 fun d2 ρ2 v2 S2 H2 s2 r2 q2 P2 => ?_)
    have q2 : At X.K S2 v2 d2 := q2
    dsimp only at P2
    cases hx2 : ρ2.getD i none with
    | none => rw [hx2] at P2; exact P2.elim
    | some d3 =>
      rw [hx2] at P2
      obtain ⟨u', eu', hown⟩ := r2.own (getD_some hx2) ho2
      rw [eu] at eu'
      cases eu'
      obtain ⟨a, ea, na, q⟩ := hown
      subst ea
      obtain ⟨o, eh, bd⟩ := q
      cases bd with
      | @lst vs ds z rl =>
        cases q2 with
        | int k =>
          have P2 : PostS X W L S2 H2 os2 σ os2 Ds (match ixN ds.length k with
            | some j => .ok (.nx (ρ2.set i (some (.lst (ds.set j d)))))
            | none => .stuck) := P2
          cases hj : ixN ds.length k with
          | none => rw [hj] at P2; exact P2.elim
          | some j =>
            rw [hj] at P2
            obtain ⟨r3, st3⟩ := turnL r2 ho2 eu na (by rw [List.length_set]; exact z) (rl.set j (q1.mono s2.ext.s))
            exact ⟨a, vs, k, j, rfl, rfl, eh, by rw [rl.length]; exact hj, P2 σ S2 _ st3 FixOn.refl r3⟩
        | _ => exact P2.elim
      | _ => cases q2 <;> exact P2.elim

/-! ### methods -/
/-- a method that turns its list: u tells the value and the new list -/
def OwnM (X : Cx) (id : String) (u : List D → List D → Option (D × List D)) : Prop :=
  ∃ r, MtR X id r ∧ ∀ S H a vs ds ws es c ds' Q, Same S H → H a = some (.lst vs) → S a = none → AtL X.K S vs ds → AtL X.K S ws es → ds.length ≤ sizeLine → u ds es = some (c, ds') →
    (∀ v vs', AtL X.K S vs' ds' → ds'.length ≤ sizeLine → At X.K S v c → Q v (upd H a (.lst vs'))) → r (.ref a) ws H Q
def eOwnM (u : List D → List D → Option (D × List D)) (i : Nat) (g : Rho → Out (List D × Rho)) : Rho → Out (D × Rho) := fun ρ => match ρ.getD i none with
  | some (.lst _) => (g ρ).bind fun p => (match p.2.getD i none with
    | some (.lst ds) => (Out.of (u ds p.1)).bind fun c => .ok (c.1, p.2.set i (some (.lst c.2)))
    | _ => .stuck)
  | _ => .stuck
theorem ve_ownM (i : Nat) {x name : Str} {id : String} {px cpos : Pos} {u : List D → List D → Option (D × List D)} (hm : OwnM X id u) (pa : PlainAttrs "list") (slot : Slot "list" name id) (hty : typeOf (.builtin id) = pure (.type "method_descriptor")) (hg : VA X W os (e :: es) g os1)
    (ho : os.getD i false = true := by rfl) (ho1 : os1.getD i false = true := by rfl) (hN : X.N[i]? = some x := by rfl) (hvis : Vis X.env.scope x := by first | exact Or.inl rfl | exact Or.inr (Or.inl rfl) | exact Or.inr (Or.inr rfl)) (hd : (x == ("__debug__" : Str)) = false := by decide) (hcd : (x == ("__classdict__" : Str)) = false := by decide)
    (hbase : attributeBase (.Name x px) name X.env (eval (.Name x px) X.env) = eval (.Name x px) X.env := by rfl)
    (hfew : ((backTo cpos (starEach (e :: es) X.env)).all (fun x => !x.1) && (backToKw cpos (keywordEach [] X.env)).all (fun x => x.1.isSome)
      && decide ((e :: es).length + ([] : List Keyword).length + (if ([] : List Keyword).isEmpty then 0 else 1) < 30)) = true := by rfl)
    (hline : (apos.endLine == cpos.line) = true := by rfl) (hs : starEach (e :: es) X.env = (false, eval e X.env) :: starEach es X.env := by rfl) (hplain : (backTo cpos (starEach es X.env)).any (·.1) = false := by rfl) :
    VE X W os (.Call (.Attribute (.Name x px) name apos) (e :: es) [] cpos) (eOwnM u i g) os1 false := by
  obtain ⟨tg, pg, kg⟩ := hg
  obtain ⟨r, pm, km⟩ := hm
  refine ⟨_, pe_bm pa slot hty pm (pe_var hN hvis hd hcd) pg hbase hfew hline hs hplain, fun S σ H ρ Q rel P => ?_⟩
  unfold eOwnM at P
  cases hx : ρ.getD i none with
  | none => rw [hx] at P; exact P.elim
  | some d0 =>
    rw [hx] at P
    obtain ⟨w, ew, hown⟩ := rel.own (getD_some hx) ho
    refine ⟨w, ew, ?_, ?_⟩
    · obtain ⟨a, ea, na, q⟩ := hown
      subst ea
      obtain ⟨o, eh, bd⟩ := q
      cases bd with
      | @lst vs ds z rl => exact .inl ⟨rfl, vs, .of eh⟩
      | _ => exact P.elim
    · have P : Post X W S H os σ os1 (RV X.K false) Q ((g ρ).bind fun p => (match p.2.getD i none with
        | some (.lst ds) => (Out.of (u ds p.1)).bind fun c => .ok (c.1, p.2.set i (some (.lst c.2)))
        | _ => .stuck)) := by
        cases d0 <;> first | exact P | exact P.elim
      refine kg S σ H ρ _ rel (Post.seq P (fun z => z) (fun c fs p => p) fun es' ρ1 ws S1 H1 st1 rel1 q1 P1 => ?_)
      have P1 := P1.step RV.ok st1
      dsimp only at P1
      cases hx1 : ρ1.getD i none with
      | none => rw [hx1] at P1; exact P1.elim
      | some d1 =>
        rw [hx1] at P1
        obtain ⟨w', ew', hown'⟩ := rel1.own (getD_some hx1) ho1
        rw [ew] at ew'
        cases ew'
        obtain ⟨a, ea, na, q⟩ := hown'
        subst ea
        obtain ⟨o, eh, bd⟩ := q
        cases bd with
        | @lst vs ds z rl =>
          have P1 : Post X W S1 H1 os1 σ os1 (RV X.K false) Q ((Out.of (u ds es')).bind fun c => .ok (c.1, ρ1.set i (some (.lst c.2)))) := P1
          cases hu : u ds es' with
          | none => rw [hu] at P1; exact P1.elim
          | some c =>
            rw [hu] at P1
            refine km S1 H1 a vs ds ws es' c.1 c.2 Q rel1.sub eh na rl q1.1 z hu fun v vs' h1 h2 h3 => ?_
            obtain ⟨r3, st3⟩ := turnL rel1 ho1 ew na h2 h1
            exact P1 v S1 _ st3 r3 h3
        | _ => exact P1.elim
theorem ve_ownM0 (i : Nat) {x name : Str} {id : String} {px cpos : Pos} {u : List D → List D → Option (D × List D)} (hm : OwnM X id u) (pa : PlainAttrs "list") (slot : Slot "list" name id) (hty : typeOf (.builtin id) = pure (.type "method_descriptor"))
    (ho : os.getD i false = true := by rfl) (hN : X.N[i]? = some x := by rfl) (hvis : Vis X.env.scope x := by first | exact Or.inl rfl | exact Or.inr (Or.inl rfl) | exact Or.inr (Or.inr rfl)) (hd : (x == ("__debug__" : Str)) = false := by decide) (hcd : (x == ("__classdict__" : Str)) = false := by decide)
    (hbase : attributeBase (.Name x px) name X.env (eval (.Name x px) X.env) = eval (.Name x px) X.env := by rfl) (hline : (apos.endLine == cpos.line) = true := by rfl) :
    VE X W os (.Call (.Attribute (.Name x px) name apos) [] [] cpos) (eOwnM u i aNil) os false := by
  obtain ⟨r, pm, km⟩ := hm
  refine ⟨_, pe_bm0 pa slot hty pm (pe_var hN hvis hd hcd) hbase hline, fun S σ H ρ Q rel P => ?_⟩
  unfold eOwnM at P
  cases hx : ρ.getD i none with
  | none => rw [hx] at P; exact P.elim
  | some d0 =>
    rw [hx] at P
    obtain ⟨w, ew, hown⟩ := rel.own (getD_some hx) ho
    obtain ⟨a, ea, na, q⟩ := hown
    subst ea
    obtain ⟨o, eh, bd⟩ := q
    cases bd with
    | @lst vs ds z rl =>
      refine ⟨.ref a, ew, .inl ⟨rfl, vs, .of eh⟩, ?_⟩
      have P1 : Post X W S H os σ os (RV X.K false) Q (match ρ.getD i none with
        | some (.lst ds) => (Out.of (u ds [])).bind fun c => .ok (c.1, ρ.set i (some (.lst c.2)))
        | _ => .stuck) := P
      rw [hx] at P1
      have P1 : Post X W S H os σ os (RV X.K false) Q ((Out.of (u ds [])).bind fun c => .ok (c.1, ρ.set i (some (.lst c.2)))) := P1
      cases hu : u ds [] with
      | none => rw [hu] at P1; exact P1.elim
      | some c =>
        rw [hu] at P1
        refine km S H a vs ds [] [] c.1 c.2 Q rel.sub eh na rl .nil z hu fun v vs' h1 h2 h3 => ?_
        obtain ⟨r3, st3⟩ := turnL rel ho ew na h2 h1
        exact P1 v S _ st3 r3 h3
    | _ => exact P.elim
def uAppend : List D → List D → Option (D × List D)
  | ds, [d] => if ds.length < sizeLine then some (.non, ds ++ [d]) else none
  | _, _ => none
theorem own_append : OwnM X "list.append" uAppend := ⟨_, mt_append, fun S H a vs ds ws es c ds' Q sub hH na r rw_ z e k => by
  unfold uAppend at e
  split at e
  · rename_i d
    split at e
    · rename_i hz
      cases e
      match ws, rw_ with
      | [w], .cons hw .nil => exact ⟨a, vs, w, rfl, rfl, hH, by rw [r.length]; exact hz, k _ _ (r.append (.cons hw .nil)) (by rw [List.length_append]; exact hz) .non⟩
    · cases e
  · cases e⟩
def uClear : List D → List D → Option (D × List D)
  | _, [] => some (.non, [])
  | _, _ => none
theorem own_clear : OwnM X "list.clear" uClear := ⟨_, mt_clear, fun S H a vs ds ws es c ds' Q sub hH na r rw_ z e k => by
  unfold uClear at e
  split at e
  · cases e
    match ws, rw_ with
    | [], .nil => exact ⟨a, vs, rfl, rfl, hH, k _ _ .nil (Nat.zero_le _) .non⟩
  · cases e⟩
end
end SW

set_option maxRecDepth 100000
/-! SW10: break, continue, x op= e, freezing ahead, bodies that always return, a module's constants, the end. -/
namespace SW
open PySem PySem.Spec PyProof.Rows L2
section
variable {X : Cx} {W : WX} {L : Lc} {os os1 os2 os3 osN : Os} {e e1 e2 : Expr} {f f1 f2 : Rho → Out (D × Rho)} {pos p apos : Pos} {es : List Expr} {g g2 : Rho → Out Fl} {st : Stmt} {sts : List Stmt}
/-- x += e -/
def sAug (i : Nat) (h : D → D → Option D) (f : Rho → Out (D × Rho)) : Rho → Out Fl := fun ρ => match ρ.getD i none with
  | none => .stuck
  | some d => (f ρ).bind fun q => (Out.of (h d q.1)).bind fun c => .ok (.nx (q.2.set i (some c)))
/-- a module's constant -/
def Konst (K : PySem.W.Frag) (mg : Str → Option Value) (x : Str) (d : D) : Prop := ∃ v u, mg x = some u ∧ RelV v u ∧ ∀ S, At K S v d
theorem ve_konst {x : Str} {d : D} (h : Konst X.K X.mg x d) (hg : Gl X x := by rfl) (hd : (x == ("__debug__" : Str)) = false := by decide) : VE X W os (.Name x p) (eCon d) os false := by
  obtain ⟨v, u, hm, hr, hat⟩ := h
  exact ve_glob hm hr hat hg hd
theorem konst_int {K : PySem.W.Frag} {mg : Str → Option Value} {x : Str} {i : Int} {t : Tok} (h : mg x = some (.int i t)) : Konst K mg x (.int i) := ⟨.int i, _, h, ⟨t, rfl⟩, fun _ => .int i⟩
/-! ### a body that never runs off its end -/
def NoNx (g : Rho → Out Fl) : Prop := ∀ ρ ρ', g ρ ≠ .ok (.nx ρ')
theorem nn_seq (h : NoNx g2) : NoNx (sSeq g g2) := fun ρ ρ' e => by
  unfold sSeq at e
  cases hg : g ρ with
  | ok z =>
    rw [hg] at e
    cases z with
    | nx ρ1 => exact h ρ1 ρ' e
    | _ => cases e
  | exc c fs => rw [hg] at e; cases e
  | stuck => rw [hg] at e; cases e
theorem nn_ret : NoNx (sRet f) := fun ρ ρ' e => by
  unfold sRet at e
  cases hg : f ρ <;> rw [hg] at e <;> cases e
theorem nn_stuck : NoNx sStuck := fun _ _ e => by cases e
/-- f(e, ..): the list or dict that f turns is a new one that nobody else holds -/
def eCallT (m : List D → Out (D × D)) (f : Rho → Out (D × Rho)) (g : Rho → Out (List D × Rho)) : Rho → Out (D × Rho) := fun ρ => (f ρ).bind fun p => (g p.2).bind fun q => (m (p.1 :: q.1)).bind fun c => .ok (c.1, q.2)
end
/-- the end: a law that is one for-all of its mirror -/
def specL (K : PySem.W.Frag) (m : List D → Out (D × D)) : Sp := fun vs H Q _ => ∃ (a : Addr) (ns : List Int), vs = [.ref a] ∧ SqL K H a (ns.map V.int) ∧ ns.length ≤ 63 ∧ (∃ o, m [.scr ns] = .ok (.bl true, o)) ∧ ∀ H', Q (.bl true) H'
theorem specL_imp {K : PySem.W.Frag} {mg : Str → Option Value} {m : List D → Out (D × D)} : ∀ vs H Q E, specL K m vs H Q E → spec K mg 1 none false m vs H Q E := by
  rintro vs H Q E ⟨a, ns, rfl, hs, hl, ⟨o, e⟩, hq⟩
  refine ⟨rfl, H, [.scr ns], rel_args (.cons (.scr hs (Nat.le_trans hl (by decide))) .nil) (Same.refl _), ?_⟩
  rw [e]
  intro v S' H' x q _
  have q : At K S' v (.bl true) := q
  cases q
  exact hq H'
theorem law_specL {K : PySem.W.Frag} {m : List D → Out (D × D)} (hm : ∀ ns : List Int, ns.length ≤ 63 → ∃ o, m [.scr ns] = .ok (.bl true, o)) {H : Hp} {a : Addr} {ns : List Int} (hl : ns.length ≤ 63) (hs : SqL K H a (ns.map V.int)) :
    specL K m [.ref a] H (fun v _ => v = .bl true) fun _ _ _ => False := ⟨a, ns, rfl, hs, hl, hm ns hl, fun _ => rfl⟩
end SW
namespace SW
open PySem PySem.Spec PyProof.Rows L2
theorem bt_len : bootBuiltins "len" = some (.builtin "len") := by decide +kernel
theorem bt_isinstance : bootBuiltins "isinstance" = some (.builtin "isinstance") := by decide +kernel
theorem bt_abs : bootBuiltins "abs" = some (.builtin "abs") := by decide +kernel
theorem bt_max : bootBuiltins "max" = some (.builtin "max") := by decide +kernel
theorem bt_min : bootBuiltins "min" = some (.builtin "min") := by decide +kernel
theorem bt_int : bootBuiltins "int" = some (.type "int") := by decide +kernel
theorem bt_bool : bootBuiltins "bool" = some (.type "bool") := by decide +kernel
theorem bt_tuple : bootBuiltins "tuple" = some (.type "tuple") := by decide +kernel
theorem bt_list : bootBuiltins "list" = some (.type "list") := by decide +kernel
theorem hu65 {A : Around} {k : Nat} (hr : Room k A) : A.units + 65 < cLine := by have := hr.un; omega
/-- comparisons: numbers first, then any data that are alike -/
def ltA : D → D → Option D := fun a b => match ltI a b with | some c => some c | none => ltD a b
def leA : D → D → Option D := fun a b => match leI a b with | some c => some c | none => leD a b
def gtA : D → D → Option D := fun a b => match gtI a b with | some c => some c | none => gtD a b
def geA : D → D → Option D := fun a b => match geI a b with | some c => some c | none => geD a b
theorem o_ltA {X : Cx} (hu : X.A.units + 64 < cLine) : Op2 X (compareOp .Lt) ltA := o_ltI.or (o_lt hu)
theorem o_leA {X : Cx} (hu : X.A.units + 64 < cLine) : Op2 X (compareOp .LtE) leA := o_leI.or (o_le hu)
theorem o_gtA {X : Cx} (hu : X.A.units + 64 < cLine) : Op2 X (compareOp .Gt) gtA := o_gtI.or (o_gt hu)
theorem o_geA {X : Cx} (hu : X.A.units + 64 < cLine) : Op2 X (compareOp .GtE) geA := o_geI.or (o_ge hu)
/-- the def's own start: only the turned parameter is owned -/
theorem os_ok {os : Os} {pm : Option Nat} (h : (List.range (max os.length (osP pm).length)).all (fun i => os.getD i false == (osP pm).getD i false) = true) : ∀ i, os.getD i false = (osP pm).getD i false := fun i => by
  by_cases hi : i < max os.length (osP pm).length
  · exact eq_of_beq (List.all_eq_true.mp h i (List.mem_range.mpr hi))
  · rw [List.getD, List.getD, List.getElem?_eq_none (by omega), List.getElem?_eq_none (by omega)]
theorem konst_tup {K : PySem.W.Frag} {mg : Str → Option Value} {x : Str} {p : Addr} {o : Obj} {its : Array Value} {n : Nat} {vs : List V} {ds : List D} (h : mg x = some (.ref p)) (hk : K.lookup p = some o) (hc : o.cls = .type "tuple") (hd : o.data = .seq its n) (hz : its.size ≤ sizeLine ∧ ds.length ≤ sizeLine) (hv : Vals vs its.toList) (hat : ∀ {S}, AtL K S vs ds) : Konst K mg x (.tup ds) :=
  ⟨.ref p, _, h, rfl, fun S => .tup (.inr ⟨o, its, n, hk, hc, hd, hz.1, hv⟩) hz.2 hat⟩
theorem cx_false {P : Program} {w : World} {H : Hp} {s s' : Shared} {e : Value} (h : L2.CX P w [] H s (fun _ _ _ => False) e s') : False := by
  obtain ⟨_, _, _, _, _, _, _, _, _, _, _, _, z⟩ := h
  exact z
def aHoleQ (i : Nat) (g : Rho → Out (List D × Rho)) : Rho → Out (List D × Rho) := fun ρ => match ρ.getD i none with | some _ => aHole g ρ | none => .stuck
/-- fuels -/
def fuelInt (i : Nat) : Rho → Nat := fun ρ => match ρ.getD i none with
  | some (.int n) => n.natAbs + 1
  | _ => 0
def fuelLen (i : Nat) : Rho → Nat := fun ρ => match ρ.getD i none with
  | some (.tup ds) => ds.length + 1
  | some (.lst ds) => ds.length + 1
  | _ => 0
end SW

set_option maxRecDepth 100000
/-! SW11: how mirrors are reckoned: equations for simp. -/
namespace SW
open PySem PySem.Spec PyProof.Rows L2
section
variable {α β : Type} {ρ ρ1 ρ2 : Rho} {i j : Int} {d e : D} {k : α → Out β} {a : α}
theorem bind_ok : (Out.ok a).bind k = k a := rfl
theorem bind_exc {c fs} : (Out.exc c fs : Out α).bind k = .exc c fs := rfl
theorem bind_stuck : (Out.stuck : Out α).bind k = .stuck := rfl
theorem of_some : Out.of (some a) = .ok a := rfl
theorem eCon_ok : eCon d ρ = .ok (d, ρ) := rfl
theorem aNil_ok : aNil ρ = .ok ([], ρ) := rfl
theorem oNone_ok : oNone ρ = .ok (none, ρ) := rfl
theorem tYes_ok : tYesF ρ = .ok (true, ρ) := rfl
theorem sSkip_ok : sSkip ρ = .ok (.nx ρ) := rfl
/-! numbers -/
theorem addD_int : addD (.int i) (.int j) = some (.int (i + j)) := rfl
theorem subD_int : subD (.int i) (.int j) = some (.int (i - j)) := rfl
theorem negD_int : negD (.int i) = some (.int (-i)) := rfl
theorem repD_int (h : bits2 i j = true) : repD (.int i) (.int j) = some (.int (i * j)) := by show (if bits2 i j = true then some (D.int (i * j)) else none) = _; rw [if_pos h]
theorem modD_int (h : 0 < j) : modD (.int i) (.int j) = some (.int (i % j)) := by
  show (if (j != 0) = true then some (D.int (i.fmod j)) else none) = _
  rw [if_pos (by simp; omega), Int.fmod_eq_emod_of_nonneg _ (by omega)]
theorem fdivD_int (h : 0 < j) : fdivD (.int i) (.int j) = some (.int (i / j)) := by
  have e : fdivOk i j = true := by
    unfold fdivOk
    simp
    omega
  show (if fdivOk i j = true then some (D.int (i.fdiv j)) else none) = _
  rw [if_pos e, Int.fdiv_eq_ediv_of_nonneg _ (by omega)]
theorem ltA_int : ltA (.int i) (.int j) = some (.bl (decide (i < j))) := rfl
theorem leA_int : leA (.int i) (.int j) = some (.bl (decide (i ≤ j))) := rfl
theorem gtA_int : gtA (.int i) (.int j) = some (.bl (decide (j < i))) := rfl
theorem geA_int : geA (.int i) (.int j) = some (.bl (decide (j ≤ i))) := rfl
theorem eqD_int : eqD (.int i) (.int j) = some (.bl (decide (i = j))) := by
  show some (D.bl (i == j)) = _
  rw [Bool.beq_eq_decide_eq]
theorem neD_int : neD (.int i) (.int j) = some (.bl (!decide (i = j))) := by
  show some (D.bl (!(i == j))) = _
  rw [Bool.beq_eq_decide_eq]
theorem powD_int {n : Int} (h : powOk i j = true) (hn : i ^ j.toNat = n) : powD (.int i) (.int j) = some (.int n) := by
  subst hn
  show (if powOk i j = true then some (D.int (i ^ j.toNat)) else none) = _
  rw [if_pos h]
theorem pow_10_18 : powD (.int 10) (.int 18) = some (.int 1000000000000000000) := powD_int (by decide) (by decide)
theorem pow_10_60 : powD (.int 10) (.int 60) = some (.int 1000000000000000000000000000000000000000000000000000000000000) := powD_int (by decide) (by decide)
/-! calls -/
theorem bits2_of {i j : Int} {a b : Nat} (ha : i.natAbs < 2 ^ a) (hb : j.natAbs < 2 ^ b) (h : a + b ≤ 130000000) : bits2 i j = true := by
  have h1 : i.natAbs.log2 < a + 1 := by
    by_cases hz : i.natAbs = 0
    · rw [hz]; simp
    · exact Nat.lt_succ_of_lt ((Nat.log2_lt hz).mpr ha)
  have h2 : j.natAbs.log2 < b + 1 := by
    by_cases hz : j.natAbs = 0
    · rw [hz]; simp
    · exact Nat.lt_succ_of_lt ((Nat.log2_lt hz).mpr hb)
  unfold bits2
  rw [decide_eq_true (show i.natAbs.log2 + j.natAbs.log2 < 134000000 by omega)]
  rfl
theorem bits2_l {i j : Int} (hb : i.natAbs < 2 ^ 63) : bits2 i j = true := by
  unfold bits2
  rw [decide_eq_true hb]
  simp
end
end SW

set_option maxRecDepth 100000
/-! SW12: typed data (Enc), loops and comprehensions by typed functions, slices, words. -/
namespace SW
open PySem PySem.Spec PyProof.Rows L2

/-! ### typed data -/
structure Enc (α : Type) [DecidableEq α] where
  en : α → D
  py : α → PyData
  dp : Nat
  hpy : ∀ a, (en a).py = some (py a)
  heq : ∀ a b, PyData.eqv (py a) (py b) = decide (a = b)
  lay : ∀ a, (py a).canLay0 = true
  hdp : ∀ a, (py a).depth ≤ dp
section
variable {α β : Type} [DecidableEq α] [DecidableEq β]
def eInt : Enc Int where
  en := .int
  py := .int
  dp := 0
  hpy _ := rfl
  heq a b := by show (a == b) = _; rw [Bool.beq_eq_decide_eq]
  lay _ := by simp [PyData.canLay0]
  hdp _ := by simp [PyData.depth]
theorem pyL_map (e : Enc α) : ∀ l : List α, D.pyL (l.map e.en) = some (l.map e.py)
  | [] => rfl
  | a :: l => by
    show (match D.py (e.en a), D.pyL (l.map e.en) with
      | some p, some ps => some (p :: ps)
      | _, _ => none) = _
    rw [e.hpy, pyL_map e l]
    rfl
theorem eqvAll_map (e : Enc α) : ∀ a b : List α, PyData.eqvAll (a.map e.py) (b.map e.py) = decide (a = b)
  | [], [] => rfl
  | [], _ :: _ => rfl
  | _ :: _, [] => rfl
  | x :: a, y :: b => by
    show (PyData.eqv (e.py x) (e.py y) && PyData.eqvAll (a.map e.py) (b.map e.py)) = _
    rw [e.heq, eqvAll_map e a b, Bool.eq_iff_iff]
    simp
theorem layAll_map (e : Enc α) : ∀ a : List α, PyData.canLayAll0 (a.map e.py) = true
  | [] => by simp [PyData.canLayAll0]
  | x :: a => by
    show PyData.canLayAll0 (e.py x :: a.map e.py) = true
    rw [PyData.canLayAll0, e.lay, layAll_map e a]
    rfl
theorem dpAll_map (e : Enc α) : ∀ a : List α, PyData.depthAll (a.map e.py) ≤ e.dp
  | [] => by simp [PyData.depthAll]
  | x :: a => by
    show PyData.depthAll (e.py x :: a.map e.py) ≤ _
    rw [PyData.depthAll]
    exact Nat.max_le.mpr ⟨e.hdp x, dpAll_map e a⟩
def eTupOf (e : Enc α) : Enc (List α) where
  en l := .tup (l.map e.en)
  py l := .tuple (l.map e.py)
  dp := e.dp + 1
  hpy l := by show (D.pyL (l.map e.en)).map PyData.tuple = _; rw [pyL_map]; rfl
  heq a b := eqvAll_map e a b
  lay a := by rw [PyData.canLay0]; exact layAll_map e a
  hdp a := by rw [PyData.depth]; have := dpAll_map e a; omega
def eLstOf (e : Enc α) : Enc (List α) where
  en l := .lst (l.map e.en)
  py l := .list (l.map e.py)
  dp := e.dp + 1
  hpy l := by show (D.pyL (l.map e.en)).map PyData.list = _; rw [pyL_map]; rfl
  heq a b := eqvAll_map e a b
  lay a := by rw [PyData.canLay0]; exact layAll_map e a
  hdp a := by rw [PyData.depth]; have := dpAll_map e a; omega
def ePair (e : Enc α) (f : Enc β) : Enc (α × β) where
  en p := .tup [e.en p.1, f.en p.2]
  py p := .tuple [e.py p.1, f.py p.2]
  dp := max e.dp f.dp + 1
  hpy p := by
    have e2 : D.pyL [f.en p.2] = some [f.py p.2] := pyL_map f [p.2]
    have e3 : D.pyL [e.en p.1, f.en p.2] = some [e.py p.1, f.py p.2] := by
      show (match D.py (e.en p.1), D.pyL [f.en p.2] with
        | some p, some ps => some (p :: ps)
        | _, _ => none) = _
      rw [e.hpy, e2]
    show (D.pyL [e.en p.1, f.en p.2]).map PyData.tuple = _
    rw [e3]
    rfl
  heq a b := by
    show (PyData.eqv (e.py a.1) (e.py b.1) && (PyData.eqv (f.py a.2) (f.py b.2) && true)) = _
    rw [e.heq, f.heq, Bool.eq_iff_iff]
    simp [Prod.ext_iff]
  lay a := by simp [PyData.canLay0, PyData.canLayAll0, e.lay, f.lay]
  hdp a := by
    simp only [PyData.depth, PyData.depthAll]
    have := e.hdp a.1
    have := f.hdp a.2
    omega
theorem shaped_enc (e : Enc α) (h : e.dp ≤ 64) (a : α) : SeqAt.shaped (e.py a) = true := by
  unfold SeqAt.shaped
  rw [e.lay, decide_eq_true (Nat.le_trans (e.hdp a) h)]
  rfl
theorem eqD_enc (e : Enc α) (h : e.dp ≤ 64) (a b : α) : eqD (e.en a) (e.en b) = some (.bl (decide (a = b))) := by
  unfold eqD cmpP
  rw [e.hpy, e.hpy]
  dsimp only
  unfold shOk
  rw [shaped_enc e h, shaped_enc e h, e.heq]
  rfl
theorem neD_enc (e : Enc α) (h : e.dp ≤ 64) (a b : α) : neD (e.en a) (e.en b) = some (.bl (!decide (a = b))) := by
  unfold neD cmpP
  rw [e.hpy, e.hpy]
  dsimp only
  unfold shOk
  rw [shaped_enc e h, shaped_enc e h, e.heq]
  rfl
end
/-! ### words of whole numbers -/
abbrev eWord : Enc (List Int) := eTupOf eInt
def ltN : List Int → List Int → Bool
  | _, [] => false
  | [], _ :: _ => true
  | x :: xs, y :: ys => if x = y then ltN xs ys else decide (x < y)
theorem ltN_toks : ∀ a b : List Int, PyProof.Rows.lexLt PyProof.Rows.itemOrd (PySem.W.keyToksAll (a.map PyData.int)) (PySem.W.keyToksAll (b.map PyData.int)) = ltN a b
  | [], [] => by rfl
  | [], y :: ys => by
    rw [List.map_nil, List.map_cons, PySem.W.toks_all_cons]
    show PyProof.Rows.lexLt PyProof.Rows.itemOrd (PySem.W.keyToksAll []) _ = true
    rw [PySem.W.keyToksAll]
    rw [PyProof.Rows.lex_diff (O := PyProof.Rows.itemOrd) (by intro z; cases z)]
    rfl
  | x :: xs, [] => by
    rw [List.map_nil, List.map_cons, PySem.W.toks_all_cons]
    show PyProof.Rows.lexLt PyProof.Rows.itemOrd _ (PySem.W.keyToksAll []) = false
    rw [PySem.W.keyToksAll]
    rw [PyProof.Rows.lex_diff (O := PyProof.Rows.itemOrd) (by intro z; cases z)]
    rfl
  | x :: xs, y :: ys => by
    rw [List.map_cons, List.map_cons, PySem.W.toks_all_cons, PySem.W.toks_all_cons, PyProof.Rows.lex_self (O := PyProof.Rows.itemOrd)]
    have e1 : ∀ z : Int, PySem.W.keyToks (.int z) = [Sum.inl z] := fun z => by rw [PySem.W.keyToks]
    rw [e1, e1]
    show PyProof.Rows.lexLt PyProof.Rows.itemOrd (Sum.inl x :: PySem.W.keyToksAll (xs.map PyData.int)) (Sum.inl y :: PySem.W.keyToksAll (ys.map PyData.int)) = (if x = y then ltN xs ys else decide (x < y))
    by_cases h : x = y
    · subst h
      rw [PyProof.Rows.lex_self (O := PyProof.Rows.itemOrd), ltN_toks xs ys, if_pos rfl]
    · rw [PyProof.Rows.lex_diff (O := PyProof.Rows.itemOrd) (fun z => h (Sum.inl.inj z)), if_neg h]
      rfl
theorem alike_ints : ∀ a b : List Int, PySem.W.alikeAll (a.map PyData.int) (b.map PyData.int) = true
  | [], _ => by simp [PySem.W.alikeAll]
  | _ :: _, [] => by simp [PySem.W.alikeAll]
  | x :: a, y :: b => by
    rw [List.map_cons, List.map_cons, PySem.W.alikeAll, PySem.W.alike, alike_ints a b]
    rfl
theorem alOk_word (a b : List Int) : alOk (eWord.py a) (eWord.py b) = true := by
  unfold alOk
  have h1 : PySem.W.alike (eWord.py a) (eWord.py b) = true := by
    show PySem.W.alike (.tuple (a.map PyData.int)) (.tuple (b.map PyData.int)) = true
    rw [PySem.W.alike]
    exact alike_ints a b
  rw [h1, decide_eq_true (Nat.le_trans (eWord.hdp a) (by decide))]
  rfl
theorem cmp_word {g : PyData → PyData → Bool} (a b : List Int) : cmpP g alOk (eWord.en a) (eWord.en b) = some (.bl (g (eWord.py a) (eWord.py b))) := by
  unfold cmpP
  rw [eWord.hpy, eWord.hpy]
  dsimp only
  rw [alOk_word, if_pos rfl]
theorem lt_word (a b : List Int) : PySem.W.dataLt (eWord.py a) (eWord.py b) = ltN a b := by
  show PySem.W.dataLt (.tuple (a.map PyData.int)) (.tuple (b.map PyData.int)) = _
  rw [PySem.W.dataLt_tuple]
  exact ltN_toks a b
theorem gtA_word (a b : List Int) : gtA (eWord.en a) (eWord.en b) = some (.bl (ltN b a)) := by
  show gtD _ _ = _
  unfold gtD; rw [cmp_word, lt_word]
theorem leA_word (a b : List Int) : leA (eWord.en a) (eWord.en b) = some (.bl (!ltN b a)) := by
  show leD _ _ = _
  unfold leD; rw [cmp_word, lt_word]
theorem geA_word (a b : List Int) : geA (eWord.en a) (eWord.en b) = some (.bl (!ltN a b)) := by
  show geD _ _ = _
  unfold geD; rw [cmp_word, lt_word]

/-! ### slices -/
theorem cut_drop (l : List D) {k : Int} (h : 0 ≤ k) : cutD l (some k) none = l.drop k.toNat := by
  unfold cutD
  have e : HT.sIx l.length 0 (some k) = min k.toNat l.length := by
    show (if k < 0 then (k + (l.length : Int)).toNat else min k.toNat l.length) = _
    rw [if_neg (by omega)]
  rw [e]
  show List.take (l.length - min k.toNat l.length) (l.drop (min k.toNat l.length)) = _
  rcases Nat.le_total k.toNat l.length with h1 | h1
  · rw [Nat.min_eq_left h1, List.take_of_length_le (by rw [List.length_drop]; omega)]
  · rw [Nat.min_eq_right h1, List.drop_of_length_le (Nat.le_refl _), List.drop_of_length_le h1, List.take_nil]
theorem cut_take (l : List D) {k : Int} (h : 0 ≤ k) : cutD l none (some k) = l.take k.toNat := by
  unfold cutD
  have e : HT.sIx l.length l.length (some k) = min k.toNat l.length := by
    show (if k < 0 then (k + (l.length : Int)).toNat else min k.toNat l.length) = _
    rw [if_neg (by omega)]
  rw [e]
  show List.take (min k.toNat l.length - 0) (l.drop 0) = _
  rw [List.drop_zero, Nat.sub_zero]
  rcases Nat.le_total k.toNat l.length with h1 | h1
  · rw [Nat.min_eq_left h1]
  · rw [Nat.min_eq_right h1, List.take_of_length_le (Nat.le_refl _), List.take_of_length_le h1]
/-! ### loops -/
section
variable {ι σ : Type} {b : D → Rho → Option Rho} {g : Rho → Out Fl} {vs : List Nat} {tt : Rho → Out (Bool × Rho)} {fe : Rho → Out (D × Rho)} {f : ι → D}
/-- a comprehension that turns nothing -/
theorem compL_of {ρ : Rho} {c : ι → Bool} {h : ι → D} : ∀ (l : List ι), (∀ i ∈ l, ∃ ρ1, b (f i) (wipeR ρ vs) = some ρ1 ∧ ∃ ρ2, tt ρ1 = .ok (c i, ρ2) ∧ (c i = false → backR vs ρ ρ2 = ρ) ∧ (c i = true → ∃ ρ3, fe ρ2 = .ok (h i, ρ3) ∧ backR vs ρ ρ3 = ρ)) →
    compL vs b tt fe (l.map f) ρ = .ok ((l.filter c).map h, ρ)
  | [], _ => rfl
  | i :: l, st => by
    obtain ⟨ρ1, e1, ρ2, e2, hf, ht⟩ := st i List.mem_cons_self
    have ih := compL_of l fun j hj => st j (List.mem_cons_of_mem _ hj)
    rw [List.map_cons]
    unfold compL
    rw [e1]
    dsimp only
    rw [e2]
    cases hc : c i with
    | false =>
      dsimp only
      rw [hf hc, ih, List.filter_cons_of_neg (by simp [hc])]
    | true =>
      obtain ⟨ρ3, e3, e4⟩ := ht hc
      dsimp only
      rw [e3]
      dsimp only
      rw [e4, ih, List.filter_cons_of_pos hc, List.map_cons]
      rfl
/-- a loop that turns a state -/
theorem forL_fold {St : σ → Rho → Prop} {step : σ → ι → σ} : ∀ (l : List ι) (s : σ) (ρ : Rho), St s ρ → (∀ i ∈ l, ∀ s ρ, St s ρ → ∃ ρ1 ρ2, b (f i) ρ = some ρ1 ∧ g ρ1 = .ok (.nx ρ2) ∧ St (step s i) ρ2) →
    ∃ ρ', forL b g (l.map f) ρ = .ok (.nx ρ') ∧ St (l.foldl step s) ρ'
  | [], s, ρ, h, _ => ⟨ρ, rfl, h⟩
  | i :: l, s, ρ, h, st => by
    obtain ⟨ρ1, ρ2, e1, e2, h2⟩ := st i List.mem_cons_self s ρ h
    obtain ⟨ρ', e3, h3⟩ := forL_fold l (step s i) ρ2 h2 fun j hj => st j (List.mem_cons_of_mem _ hj)
    refine ⟨ρ', ?_, h3⟩
    rw [List.map_cons]
    unfold forL
    rw [e1]
    dsimp only
    rw [e2, bind_ok]
    exact e3
/-- a loop that searches -/
theorem forL_search {St : Rho → Prop} {c : ι → Bool} {d : ι → D} : ∀ (l : List ι) (ρ : Rho), St ρ → (∀ i ∈ l, ∀ ρ, St ρ → ∃ ρ1, b (f i) ρ = some ρ1 ∧ ((c i = false ∧ ∃ ρ2, g ρ1 = .ok (.nx ρ2) ∧ St ρ2) ∨ (c i = true ∧ ∃ ρ2, g ρ1 = .ok (.rt (d i) ρ2)))) →
    (l.find? c = none ∧ ∃ ρ', forL b g (l.map f) ρ = .ok (.nx ρ') ∧ St ρ') ∨ ∃ i, l.find? c = some i ∧ ∃ ρ', forL b g (l.map f) ρ = .ok (.rt (d i) ρ')
  | [], ρ, h, _ => .inl ⟨rfl, ρ, rfl, h⟩
  | i :: l, ρ, h, st => by
    obtain ⟨ρ1, e1, h2⟩ := st i List.mem_cons_self ρ h
    rw [List.map_cons]
    rcases h2 with ⟨hc, ρ2, e2, h3⟩ | ⟨hc, ρ2, e2⟩
    · have e : forL b g (f i :: l.map f) ρ = forL b g (l.map f) ρ2 := by
        conv => lhs; unfold forL
        rw [e1]
        dsimp only
        rw [e2, bind_ok]
      rw [e, List.find?_cons_of_neg (by simp [hc])]
      exact forL_search l ρ2 h3 fun j hj => st j (List.mem_cons_of_mem _ hj)
    · refine .inr ⟨i, List.find?_cons_of_pos hc, ρ2, ?_⟩
      unfold forL
      rw [e1]
      dsimp only
      rw [e2, bind_ok]
end
theorem rangeD1 {j : Int} (h0 : 0 ≤ j) (h : j ≤ 16777216) : rangeD [.int j] = some ((List.range j.toNat).map fun i => .int ((i : Nat) : Int)) := by
  show (if j.toNat ≤ 16777216 ∧ j.natAbs ≤ 4611686018427387904 then some (rngI 0 j.toNat) else none) = _
  rw [if_pos ⟨by omega, by omega⟩]
  unfold rngI
  congr 1
  exact List.map_congr_left fun i _ => by rw [Int.zero_add]
theorem rangeD2 {i j : Int} (h0 : -16777216 ≤ i) (h1 : j ≤ 16777216) (h2 : -16777216 ≤ j) (h3 : i ≤ 16777216) (h : j - i ≤ 16777216) : rangeD [.int i, .int j] = some ((List.range (j - i).toNat).map fun k => .int (i + ((k : Nat) : Int))) := by
  show (if (j - i).toNat ≤ 16777216 ∧ lim62 i = true ∧ lim62 j = true then some (rngI i (j - i).toNat) else none) = _
  have l : ∀ k : Int, -16777216 ≤ k → k ≤ 16777216 → lim62 k = true := fun k a b => by
    unfold lim62
    exact decide_eq_true (by omega)
  rw [if_pos ⟨by omega, l i h0 h3, l j h2 h1⟩]
  rfl
end SW

set_option maxRecDepth 100000
/-! SW13: comprehensions inside comprehensions. -/
namespace SW
open PySem PySem.Spec PyProof.Rows L2
end SW

set_option maxRecDepth 100000
/-! SW14: chained comparisons. -/
namespace SW
open PySem PySem.Spec PyProof.Rows L2
section
variable {X : Cx} {W : WX} {os os1 os2 : Os} {e1 e2 e3 : Expr} {f1 f2 f3 : Rho → Out (D × Rho)} {pos : Pos}
end
end SW

set_option maxRecDepth 100000
/-! SW15: a caught error kept as a value. -/
namespace SW
open PySem PySem.Spec PyProof.Rows L2
section
variable {X : Cx} {pins : List (Addr × Obj)} {σ : List (Option V)} {H : Hp} {s : Shared}
end
end SW

set_option maxRecDepth 100000
/-! SW16: dicts: keys by data; d[k], k in d, d.get, d.pop, d[k] = v, len(d), loops over d. -/
namespace SW
open PySem PySem.Spec PyProof.Rows L2

/-! ### keys -/
mutual
theorem keyB_keyD : ∀ {d : D} {k : NestedKey}, keyD d = some k → keyB k = d
  | .non, _, e => by cases e; rfl
  | .int i, _, e => by cases e; rfl
  | .tup ds, k, e => by
    unfold keyD at e
    cases q : keyDs ds with
    | none => rw [q] at e; cases e
    | some ks => rw [q] at e; cases e; unfold keyB; rw [keyBs_keyDs q]
  | .bl _, _, e => by cases e
  | .str _, _, e => by cases e
  | .lst _, _, e => by cases e
  | .dct _, _, e => by cases e
  | .ins _ _, _, e => by cases e
  | .exc _ _, _, e => by cases e
  | .scr _, _, e => by cases e
  | .ty _, _, e => by cases e
theorem keyBs_keyDs : ∀ {ds : List D} {ks : List NestedKey}, keyDs ds = some ks → keyBs ks = ds
  | [], _, e => by cases e; rfl
  | d :: ds, ks, e => by
    unfold keyDs at e
    cases q1 : keyD d with
    | none => rw [q1] at e; cases e
    | some k =>
      cases q2 : keyDs ds with
      | none => rw [q1, q2] at e; cases e
      | some ks' => rw [q1, q2] at e; cases e; unfold keyBs; rw [keyB_keyD q1, keyBs_keyDs q2]
end
def KFree (k : NestedKey) : Prop := ∀ w w', NestedKey.hash w k = NestedKey.hash w' k
mutual
theorem keyD_free : ∀ {d : D} {k : NestedKey}, keyD d = some k → KFree k
  | .non, _, e => by cases e; exact fun _ _ => rfl
  | .int i, _, e => by cases e; exact fun _ _ => rfl
  | .tup ds, k, e => by
    unfold keyD at e
    cases q : keyDs ds with
    | none => rw [q] at e; cases e
    | some ks =>
      rw [q] at e
      cases e
      intro w w'
      unfold NestedKey.hash
      rw [keyDs_free q w w']
  | .bl _, _, e => by cases e
  | .str _, _, e => by cases e
  | .lst _, _, e => by cases e
  | .dct _, _, e => by cases e
  | .ins _ _, _, e => by cases e
  | .exc _ _, _, e => by cases e
  | .scr _, _, e => by cases e
  | .ty _, _, e => by cases e
theorem keyDs_free : ∀ {ds : List D} {ks : List NestedKey}, keyDs ds = some ks → ∀ w w', NestedKey.hashes w ks = NestedKey.hashes w' ks
  | [], _, e => by cases e; exact fun _ _ => rfl
  | d :: ds, ks, e => by
    unfold keyDs at e
    cases q1 : keyD d with
    | none => rw [q1] at e; cases e
    | some k =>
      cases q2 : keyDs ds with
      | none => rw [q1, q2] at e; cases e
      | some ks' =>
        rw [q1, q2] at e
        cases e
        intro w w'
        unfold NestedKey.hashes
        rw [keyD_free q1 w w', keyDs_free q2 w w']
end
theorem keyT_some {d : D} {k : NestedKey} (h : keyT d = some k) : ∃ ds, d = .tup ds ∧ keyD (.tup ds) = some k ∧ k.depth ≤ 8 := by
  unfold keyT at h
  split at h
  · rename_i ds
    split at h
    · rename_i k' hk
      split at h
      · rename_i hd
        cases h
        exact ⟨ds, rfl, hk, hd⟩
      · cases h
    · cases h
  · cases h
theorem keyT_of {ds : List D} {k : NestedKey} (h : keyD (.tup ds) = some k) (hd : k.depth ≤ 8) : keyT (.tup ds) = some k := by
  show (match keyD (.tup ds) with | some k => if k.depth ≤ 8 then some k else none | none => none) = some k
  rw [h]
  exact if_pos hd
theorem keyT_back {d : D} {k : NestedKey} (h : keyT d = some k) : keyT (keyB k) = some k := by
  obtain ⟨ds, rfl, h1, h2⟩ := keyT_some h
  rw [keyB_keyD h1]
  exact keyT_of h1 h2
theorem keyT_B {d : D} {k : NestedKey} (h : keyT d = some k) : keyB k = d := by
  obtain ⟨ds, rfl, h1, h2⟩ := keyT_some h
  exact keyB_keyD h1

section
variable {X : Cx} {pins : List (Addr × Obj)} {σ : L2.St} {H S : Hp} {s : Shared}
mutual
theorem At.nest (I : Inv X pins σ H s) (sub : Same S H) : ∀ {v : V} {d : D} {k : NestedKey} {u : Value}, At X.K S v d → keyD d = some k → RelV v u → NestedIs s.heap k u
  | _, .non, _, _, .non, e, r => by cases e; cases r; exact .none
  | _, .int _, _, _, .int i, e, r => by cases e; obtain ⟨t, rfl⟩ := r; exact .int i t
  | _, .tup ds, k, u, .tup (a := a) (vs := vs) h z q, e, r => by
    unfold keyD at e
    cases q1 : keyDs ds with
    | none => rw [q1] at e; cases e
    | some ks =>
      rw [q1] at e
      cases e
      obtain ⟨its, rv, ⟨o, ho, hc, n, hd⟩, _⟩ := I.tuple (sqT_mono sub h)
      cases (show u = Value.ref a from r)
      exact .tup ho hc hd (by simpa using AtL.nest I sub q q1 rv)
  | _, .bl _, _, _, _, e, _ => by cases e
  | _, .str _, _, _, _, e, _ => by cases e
  | _, .lst _, _, _, _, e, _ => by cases e
  | _, .dct _, _, _, _, e, _ => by cases e
  | _, .ins _ _, _, _, _, e, _ => by cases e
  | _, .exc _ _, _, _, _, e, _ => by cases e
  | _, .scr _, _, _, _, e, _ => by cases e
  | _, .ty _, _, _, _, e, _ => by cases e
theorem AtL.nest (I : Inv X pins σ H s) (sub : Same S H) : ∀ {vs : List V} {ds : List D} {ks : List NestedKey} {us : List Value}, AtL X.K S vs ds → keyDs ds = some ks → Vals vs us → NestedAll s.heap ks us
  | _, [], _, _, .nil, e, .nil => by cases e; exact .nil
  | _, d :: ds, ks, _, .cons h t, e, .cons r rs => by
    unfold keyDs at e
    cases q1 : keyD d with
    | none => rw [q1] at e; cases e
    | some k =>
      cases q2 : keyDs ds with
      | none => rw [q1, q2] at e; cases e
      | some ks' =>
        rw [q1, q2] at e
        cases e
        exact .cons (At.nest I sub h q1 r) (AtL.nest I sub t q2 rs)
end
end
/-- at b stands a tuple that is the key k -/
def KeyAt (K : PySem.W.Frag) (H : Hp) (b : Addr) (k : NestedKey) : Prop := ∃ S d, Same S H ∧ At K S (.ref b) d ∧ keyT d = some k
theorem KeyAt.is {X : Cx} {pins : List (Addr × Obj)} {σ : L2.St} {H : Hp} {s : Shared} {b : Addr} {k : NestedKey} (I : Inv X pins σ H s) (h : KeyAt X.K H b k) : (nestedKind X.prog X.w).is s.heap k b := by
  obtain ⟨S, d, sub, hat, e⟩ := h
  obtain ⟨ds, rfl, h1, h2⟩ := keyT_some e
  exact ⟨At.nest I sub hat h1 rfl, h2⟩

/-! ### tables by V -/
abbrev XL := List (NestedKey × Addr × V)
abbrev XR : XL → List (NestedKey × Addr × Value) → Prop := Paired fun p q => p.1 = q.1 ∧ p.2.1 = q.2.1 ∧ RelV p.2.2 q.2.2
def valX (xs : XL) (k : NestedKey) : Option V := (xs.find? fun p => decide (p.1 = k)).map (·.2.2)
def storeX (xs : XL) (k : NestedKey) (b : Addr) (v : V) : XL := if (valX xs k).isSome = true then xs.map (fun p => if p.1 = k then (p.1, p.2.1, v) else p) else xs ++ [(k, b, v)]
def dropX (xs : XL) (k : NestedKey) : XL := xs.filter fun p => decide (p.1 ≠ k)
def valD (ds : List (NestedKey × D)) (k : NestedKey) : Option D := (ds.find? fun p => decide (p.1 = k)).map (·.2)
def putD (ds : List (NestedKey × D)) (k : NestedKey) (d : D) : List (NestedKey × D) := if (valD ds k).isSome = true then ds.map (fun p => if p.1 = k then (p.1, d) else p) else ds ++ [(k, d)]
def dropD (ds : List (NestedKey × D)) (k : NestedKey) : List (NestedKey × D) := ds.filter fun p => decide (p.1 ≠ k)

theorem XR.val {xs : XL} {ys : List (NestedKey × Addr × Value)} (r : XR xs ys) (k : NestedKey) : RelO (valX xs k) ((atKey ys k).map (·.2)) := by
  induction r with
  | nil => exact True.intro
  | @cons p q ps qs h t ih =>
    obtain ⟨h1, _, h2⟩ := h
    unfold valX atKey at *
    rw [List.find?_cons, List.find?_cons]
    by_cases e : p.1 = k
    · rw [decide_eq_true e, decide_eq_true (h1.symm.trans e)]; exact h2
    · rw [decide_eq_false e, decide_eq_false (fun z => e (h1.trans z))]; exact ih
theorem XR.store {xs : XL} {ys : List (NestedKey × Addr × Value)} (r : XR xs ys) (k : NestedKey) (b : Addr) {v : V} {u : Value} (rv : RelV v u) : XR (storeX xs k b v) (storedH ys k b u) := by
  have e : (valX xs k).isSome = (atKey ys k).isSome := by rw [(r.val k).isSome_eq, Option.isSome_map]
  unfold storeX storedH
  rw [e]
  by_cases q : (atKey ys k).isSome = true
  · rw [if_pos q, if_pos q]
    clear e q
    induction r with
    | nil => exact .nil
    | @cons p q ps qs h t ih =>
      rw [List.map_cons, List.map_cons]
      refine .cons ?_ ih
      obtain ⟨h1, h2, h3⟩ := h
      unfold putAt
      by_cases e : p.1 = k
      · rw [if_pos e, if_pos (h1.symm.trans e)]; exact ⟨h1, h2, rv⟩
      · rw [if_neg e, if_neg (fun z => e (h1.trans z))]; exact ⟨h1, h2, h3⟩
  · rw [if_neg q, if_neg q]; exact Paired.snoc r ⟨rfl, rfl, rv⟩
theorem XR.drop {xs : XL} {ys : List (NestedKey × Addr × Value)} (r : XR xs ys) (k : NestedKey) : XR (dropX xs k) (withoutH ys k) := by
  unfold dropX withoutH
  induction r with
  | nil => exact .nil
  | @cons p q ps qs h t ih =>
    obtain ⟨h1, h2, h3⟩ := h
    rw [List.filter_cons, List.filter_cons]
    by_cases e : p.1 = k
    · have a : ¬ decide (p.1 ≠ k) = true := by simp [e]
      have b : ¬ decide (q.1 ≠ k) = true := by simp [h1.symm.trans e]
      rw [if_neg a, if_neg b]; exact ih
    · have e' : ¬ q.1 = k := fun z => e (h1.trans z)
      have a : decide (p.1 ≠ k) = true := by simp [e]
      have b : decide (q.1 ≠ k) = true := by simp [e']
      rw [if_pos a, if_pos b]; exact .cons ⟨h1, h2, h3⟩ ih
theorem entries_xr {P : Program} {w : World} : ∀ {es : List DictEntry} {xs : XL}, EnL es xs → ∃ ys, XR xs ys ∧ es = ys.map (entryOfKey (nestedKind P w))
  | _, _, .nil => ⟨[], .nil, rfl⟩
  | _, _, .cons (a := en) (b := x) h t => by
    obtain ⟨ys, r, e⟩ := entries_xr (P := P) (w := w) t
    obtain ⟨h1, h2, h3⟩ := h
    refine ⟨(x.1, x.2.1, en.val) :: ys, .cons ⟨rfl, rfl, h3⟩ r, ?_⟩
    rw [List.map_cons, ← e]
    congr 1
    cases en
    dsimp only at h1 h2
    unfold entryOfKey
    dsimp only
    rw [h2, h1 w]
    rfl
theorem xr_entries {P : Program} {w : World} : ∀ {xs : XL} {ys : List (NestedKey × Addr × Value)}, XR xs ys → (∀ p ∈ xs, KFree p.1) → EnL (ys.map (entryOfKey (nestedKind P w))) xs
  | _, _, .nil, _ => .nil
  | _, _, .cons (a := x) (b := y) h t, f => by
    obtain ⟨h1, h2, h3⟩ := h
    rw [List.map_cons]
    refine .cons ⟨fun w' => ?_, ?_, h3⟩ (xr_entries t fun p hp => f p (List.mem_cons_of_mem _ hp))
    · show NestedKey.hash w y.1 = _
      rw [← h1]
      exact f x List.mem_cons_self w w'
    · show Value.ref y.2.1 = _
      rw [h2]
theorem EnL.free {es : List DictEntry} {xs : XL} (h : EnL es xs) : ∀ p ∈ xs, KFree p.1 := by
  induction h with
  | nil => intro p hp; cases hp
  | @cons a b as bs h t ih =>
    intro p hp
    rcases List.mem_cons.mp hp with e | hp
    · subst e
      intro w w'
      rw [← h.1 w, ← h.1 w']
    · exact ih p hp

/-- what is known of the dict at a -/
structure DGood (K : PySem.W.Frag) (H : Hp) (a : Addr) (x : DX) : Prop where
  here : H a = some (DT a x)
  sys : (a == sysModules) = false
  ex : x.o.ExactDict
  nodup : (x.xs.map (·.1)).Nodup
  ens : ∃ es ep, x.o.data = .dict es ep ∧ EnL es.toList x.xs
  len : x.xs.length ≤ sizeLine
  ks : ∀ p ∈ x.xs, KeyAt K H p.2.1 p.1

theorem AtL.split {K : PySem.W.Frag} {S : Hp} : ∀ {vs ws : List V} {ds es : List D}, vs.length = ds.length → AtL K S (vs ++ ws) (ds ++ es) → AtL K S vs ds ∧ AtL K S ws es
  | [], _, [], _, _, h => ⟨.nil, h⟩
  | _ :: _, _, _ :: _, _, e, .cons h t => by
    obtain ⟨a, b⟩ := AtL.split (by simpa using e) t
    exact ⟨.cons h a, b⟩
  | [], _, _ :: _, _, e, _ => by simp at e
  | _ :: _, _, [], _, e, _ => by simp at e
section
variable {K : PySem.W.Frag} {S H : Hp} {a : Addr} {x : DX} {ds : List (NestedKey × D)}
theorem DTok.len (t : DTok a x ds) : x.xs.length = ds.length := by
  have := congrArg List.length t.keys
  simpa using this
theorem dct_split (t : DTok a x ds) (r : AtL K S x.vs (dvs ds)) : AtL K S (x.xs.map fun p => V.ref p.2.1) (ds.map fun p => keyB p.1) ∧ AtL K S (x.xs.map fun p => p.2.2) (ds.map fun p => p.2) :=
  AtL.split (by rw [List.length_map, List.length_map]; exact t.len) r
theorem good_of (h : H a = some (DT a x)) (t : DTok a x ds) (z : ds.length ≤ sizeLine) (r : AtL K S x.vs (dvs ds)) (sub : Same S H) : DGood K H a x where
  here := h
  sys := t.sys
  ex := t.ex
  nodup := t.nodup
  ens := t.ens
  len := by rw [t.len]; exact z
  ks := fun p hp => by
    obtain ⟨j, hj⟩ := List.mem_iff_getElem?.mp hp
    obtain ⟨r1, _⟩ := dct_split t r
    obtain ⟨d, ed, hat⟩ := r1.getV (i := j) (v := .ref p.2.1) (by rw [List.getElem?_map, hj]; rfl)
    have e : (ds.map (·.1))[j]? = some p.1 := by rw [← t.keys, List.getElem?_map, hj]; rfl
    rw [List.getElem?_map] at e ed
    cases q : ds[j]? with
    | none => rw [q] at e; cases e
    | some y =>
      rw [q] at e ed
      have e1 : y.1 = p.1 := Option.some.inj e
      have e2 : keyB y.1 = d := Option.some.inj ed
      rw [← e2, e1] at hat
      exact ⟨S, _, sub, hat, t.kk p hp⟩
theorem find_keys {α β : Type} (f : α → NestedKey) (g : β → NestedKey) (k : NestedKey) : ∀ {xs : List α} {ys : List β}, xs.map f = ys.map g → (∃ j : Nat, (xs.find? fun p => decide (f p = k)) = xs[j]? ∧ (ys.find? fun p => decide (g p = k)) = ys[j]?)
  | [], [], _ => ⟨0, rfl, rfl⟩
  | [], _ :: _, e => by simp at e
  | _ :: _, [], e => by simp at e
  | x :: xs, y :: ys, e => by
    rw [List.map_cons, List.map_cons] at e
    injection e with e1 e2
    by_cases h : f x = k
    · exact ⟨0, by simp [List.find?_cons, h], by simp [List.find?_cons, ← e1, h]⟩
    · obtain ⟨j, h1, h2⟩ := find_keys f g k e2
      exact ⟨j + 1, by simp [List.find?_cons, h, h1], by simp [List.find?_cons, ← e1, h, h2]⟩
theorem val_at (t : DTok a x ds) (r : AtL K S x.vs (dvs ds)) (k : NestedKey) : (∃ v d, valX x.xs k = some v ∧ valD ds k = some d ∧ At K S v d) ∨ (valX x.xs k = none ∧ valD ds k = none) := by
  obtain ⟨_, r2⟩ := dct_split t r
  obtain ⟨j, e1, e2⟩ := find_keys (fun p : NestedKey × Addr × V => p.1) (fun p : NestedKey × D => p.1) k t.keys
  have hl := t.len
  unfold valX valD
  rw [e1, e2]
  cases q : x.xs[j]? with
  | none =>
    have : ds[j]? = none := by
      rw [List.getElem?_eq_none_iff] at q ⊢
      omega
    rw [this]
    exact .inr ⟨rfl, rfl⟩
  | some p =>
    obtain ⟨d, ed, hat⟩ := r2.getV (i := j) (v := p.2.2) (by rw [List.getElem?_map, q]; rfl)
    rw [List.getElem?_map] at ed
    cases q2 : ds[j]? with
    | none => rw [q2] at ed; cases ed
    | some y => rw [q2] at ed; exact .inl ⟨_, _, rfl, ed, hat⟩
end
section
variable {X : Cx} {pins : List (Addr × Obj)} {σ : L2.St} {H : Hp} {s : Shared} {a b : Addr} {x : DX} {k : NestedKey} {A : Around} {E : Value → Shared → Prop} {v : V} {u r : Value}
theorem DGood.dict (g : DGood X.K H a x) (I : Inv X pins σ H s) : ∃ ys, XR x.xs ys ∧ s.heap.DictOfH (nestedKind X.prog X.w) a ys ∧ ys.length ≤ sizeLine ∧ s.heap.get? a = some x.o := by
  have ho : s.heap.get? a = some x.o := (show ObjOk X.prog X.w H s.heap a (DT a x) from I.hok a _ g.here).1
  obtain ⟨es, ep, hd, en⟩ := g.ens
  obtain ⟨ys, r, e⟩ := entries_xr (P := X.prog) (w := X.w) en
  have hk : x.xs.map (·.1) = ys.map (·.1) := by
    clear e en
    have n := g.nodup
    clear n
    generalize x.xs = xs at r
    induction r with
    | nil => rfl
    | cons h t ih => rw [List.map_cons, List.map_cons, ih, h.1]
  refine ⟨ys, r, ⟨x.o, es, ep, ho, g.ex, hd, e, fun y hy => ?_, by rw [← hk]; exact g.nodup⟩, by rw [← Paired.length r]; exact g.len, ho⟩
  have all : ∀ {l : XL} {m : List (NestedKey × Addr × Value)}, XR l m → (∀ p ∈ l, (nestedKind X.prog X.w).is s.heap p.1 p.2.1) → ∀ y ∈ m, (nestedKind X.prog X.w).is s.heap y.1 y.2.1 := by
    intro l m q
    induction q with
    | nil => intro _ y hy; cases hy
    | @cons p q ps qs hq t ih =>
      intro hl y hy
      rcases List.mem_cons.mp hy with e | hy
      · subst e
        have := hl p List.mem_cons_self
        rw [hq.1, hq.2.1] at this
        exact this
      · exact ih (fun p hp => hl p (List.mem_cons_of_mem _ hp)) y hy
  exact all r (fun p hp => (g.ks p hp).is I) y hy
theorem dt_ok {P : Program} {w : World} {h : Heap} (e : h.get? a = some x.o) : ObjOk P w H h a (DT a x) := ⟨e, ⟨_, e⟩, fun _ _ p k => k _ p⟩
theorem DGood.typeIs (g : DGood X.K H a x) (I : Inv X pins σ H s) : s.TypeIs (.ref a) "dict" := by
  obtain ⟨ys, _, d, _, _⟩ := g.dict I
  exact d.typeIs
theorem DGood.noDict (g : DGood X.K H a x) (I : Inv X pins σ H s) : ∀ c, Value.ref a = .ref c → ∃ ob, s.heap.get? c = some ob ∧ ob.dict = none := fun c e => by
  cases e
  obtain ⟨ys, _, _, _, ho⟩ := g.dict I
  exact ⟨x.o, ho, g.ex.2.1⟩
theorem roomN (hu : A.units + 64 < cLine) : (nestedKind X.prog X.w).room A.in1 := by
  show A.units + 1 + 8 < cLine
  omega
/-- d[k], there -/
theorem dn_getItem {Q : Value → Shared → Prop} (hu : A.units + 64 < cLine) (I : Inv X pins σ H s) (g : DGood X.K H a x) (hk : KeyAt X.K H b k) (l : valX x.xs k = some v) (h : ∀ w' s', Inv X pins σ H s' → RelV v w' → Q w' s') :
    wpAny (model X.prog X.w) A (getItem (.ref a) (.ref b)) Q E s := by
  obtain ⟨ys, rel, dd, z, _⟩ := g.dict I
  obtain ⟨w', hw, rw'⟩ := RelO.some_of (v := v) (o := (atKey ys k).map (·.2)) (by rw [← l]; exact rel.val k)
  obtain ⟨p, hp, hp2⟩ := Option.map_eq_some_iff.mp hw
  refine wpAny_getItem_heap (roomN (X := X) hu) (hk.is I) dd hp ?_
  rw [hp2]
  exact h w' _ (I.tok _) rw'
theorem dn_in {Q : Value → Shared → Prop} (hu : A.units + 64 < cLine) (I : Inv X pins σ H s) (g : DGood X.K H a x) (hk : KeyAt X.K H b k) (h : ∀ s', Inv X pins σ H s' → Q (.bool (valX x.xs k).isSome) s') :
    wpAny (model X.prog X.w) A (compareOp .In (.ref b) (.ref a)) Q E s := by
  obtain ⟨ys, rel, dd, z, _⟩ := g.dict I
  refine wpAny_in_heap (roomN (X := X) hu) (hk.is I) g.sys dd ?_
  have q := (rel.val k).isSome_eq
  rw [Option.isSome_map] at q
  rw [← q]
  exact h _ (I.tok _)
/-- d.get(k, z) -/
theorem dn_get2 {d : V} {Q : Value → Shared → Prop} (hu : A.units + 64 < cLine) (I : Inv X pins σ H s) (g : DGood X.K H a x) (hk : KeyAt X.K H b k) (rd : RelV d r) (h : ∀ w' s', Inv X pins σ H s' → RelV ((valX x.xs k).getD d) w' → Q w' s') :
    wpAny (model X.prog X.w) A (call (.builtin "dict.get") [.ref a, .ref b, r]) Q E s := by
  obtain ⟨ys, rel, dd, z, _⟩ := g.dict I
  exact call_meetsIn PySem.F.slot_dict_get dd.typeIs PySem.F.entry_dict_get (PySem.F.args_dict_get_3 _ _ _) (meetsH_dict_get_default (nestedKind X.prog X.w) a b g.sys r) ⟨roomN (X := X) hu, k, ys, hk.is I, dd, h _ _ (I.tok _) ((rel.val k).getD rd)⟩
/-- the dict's object and its table are new -/
def NewX (a : Addr) (xs : XL) (y : DX) : Prop := y.xs = xs ∧ (a == sysModules) = false ∧ y.o.ExactDict ∧ (xs.map (·.1)).Nodup ∧ ∃ es ep, y.o.data = .dict es ep ∧ EnL es.toList xs
theorem new_x {h' : Heap} {xs : XL} {ys : List (NestedKey × Addr × Value)} (hs : (a == sysModules) = false) (dd : h'.DictOfH (nestedKind X.prog X.w) a ys) (rel : XR xs ys) (f : ∀ p ∈ xs, KFree p.1) : ∃ y : DX, NewX a xs y ∧ h'.get? a = some y.o := by
  obtain ⟨o, es, ep, ho, hx, hd, he, his, hn⟩ := dd
  clear his
  have hk : xs.map (·.1) = ys.map (·.1) := by
    clear f he hn
    induction rel with
    | nil => rfl
    | cons h t ih => rw [List.map_cons, List.map_cons, ih, h.1]
  exact ⟨⟨o, xs⟩, ⟨rfl, hs, hx, by rw [hk]; exact hn, es, ep, hd, by rw [he]; exact xr_entries rel f⟩, ho⟩
theorem DGood.free (g : DGood X.K H a x) : ∀ p ∈ x.xs, KFree p.1 := by
  obtain ⟨es, ep, _, en⟩ := g.ens
  exact en.free
theorem KeyAt.free (h : KeyAt X.K H b k) : KFree k := by
  obtain ⟨S, d, sub, hat, e⟩ := h
  obtain ⟨ds, rfl, h1, h2⟩ := keyT_some e
  exact keyD_free h1
theorem storeX_mem {xs : XL} {p : NestedKey × Addr × V} (h : p ∈ storeX xs k b v) : p.1 = k ∧ p.2.1 = b ∨ ∃ q ∈ xs, q.1 = p.1 ∧ q.2.1 = p.2.1 := by
  unfold storeX at h
  split at h
  · obtain ⟨q, hq, e⟩ := List.mem_map.mp h
    refine .inr ⟨q, hq, ?_⟩
    split at e <;> subst e <;> exact ⟨rfl, rfl⟩
  · rcases List.mem_append.mp h with h | h
    · exact .inr ⟨p, h, rfl, rfl⟩
    · have : p = (k, b, v) := by simpa using h
      subst this
      exact .inl ⟨rfl, rfl⟩
/-- d[k] = v -/
theorem dn_setItem {Q : Unit → Shared → Prop} (hu : A.units + 64 < cLine) (I : Inv X pins σ H s) (g : DGood X.K H a x) (hk : KeyAt X.K H b k) (rv : RelV v r) (h : ∀ y s', NewX a (storeX x.xs k b v) y → Inv X pins σ (upd H a (DT a y)) s' → Q () s') :
    wpAny (model X.prog X.w) A (setItem (.ref a) (.ref b) r) Q E s := by
  obtain ⟨ys, rel, dd, z, _⟩ := g.dict I
  refine wpAny_setItem_heap (hsz := z) (roomN (X := X) hu) (hk.is I) dd fun h' dd' hs => ?_
  obtain ⟨y, ny, ho⟩ := new_x (X := X) g.sys dd' (rel.store k b rv) fun p hp => by
    rcases storeX_mem hp with ⟨e, _⟩ | ⟨q, hq, e, _⟩
    · rw [e]; exact hk.free
    · rw [← e]; exact g.free q hq
  exact h y _ ny (d_write I (by rw [g.here]; exact True.intro) hs ⟨_, ho⟩ (dt_ok ho))
/-- d.pop(k), there -/
theorem dn_pop {Q : Value → Shared → Prop} (hu : A.units + 64 < cLine) (I : Inv X pins σ H s) (g : DGood X.K H a x) (hk : KeyAt X.K H b k) (l : valX x.xs k = some v) (h : ∀ y w' s', NewX a (dropX x.xs k) y → RelV v w' → Inv X pins σ (upd H a (DT a y)) s' → Q w' s') :
    wpAny (model X.prog X.w) A (call (.builtin "dict.pop") [.ref a, .ref b]) Q E s := by
  obtain ⟨ys, rel, dd, z, _⟩ := g.dict I
  obtain ⟨w', hw, rw'⟩ := RelO.some_of (v := v) (o := (atKey ys k).map (·.2)) (by rw [← l]; exact rel.val k)
  obtain ⟨p, hp, hp2⟩ := Option.map_eq_some_iff.mp hw
  refine call_pop_heap (hsz := z) (.inl rfl) (PySem.F.args_dict_pop_2 _ _) (roomN (X := X) hu) (hk.is I) g.sys dd hp fun h' dd' hs => ?_
  obtain ⟨y, ny, ho⟩ := new_x (X := X) g.sys dd' (rel.drop k) fun p hp => g.free p (List.mem_filter.mp hp).1
  exact h y _ _ ny (by rw [hp2]; exact rw') (d_write I (by rw [g.here]; exact True.intro) hs ⟨_, ho⟩ (dt_ok ho))
/-- len(d) -/
theorem dn_len {Q : Value → Shared → Prop} (I : Inv X pins σ H s) (g : DGood X.K H a x) (h : ∀ t s', Inv X pins σ H s' → Q (.int (x.xs.length : Nat) t) s') : wpAny (model X.prog X.w) A (call (.builtin "len") [.ref a]) Q E s := by
  obtain ⟨ys, rel, dd, z, _⟩ := g.dict I
  refine call_len_dictH g.sys dd (by rw [sizeLine_eq] at z; omega) ?_
  rw [← Paired.length rel]
  exact h _ _ (I.tok _)
end
end SW

set_option maxRecDepth 100000
/-! SW17: dicts in expressions and statements. -/
namespace SW
open PySem PySem.Spec PyProof.Rows L2

/-! ### what is in a dict, entry by entry -/
abbrev XD (K : PySem.W.Frag) (S : Hp) : XL → List (NestedKey × D) → Prop := Paired fun p q => p.1 = q.1 ∧ At K S (.ref p.2.1) (keyB q.1) ∧ At K S p.2.2 q.2
section
variable {K : PySem.W.Frag} {S H : Hp} {a b : Addr} {x y : DX} {ds : List (NestedKey × D)} {k : NestedKey} {v : V} {d dk : D}
theorem xd_of : ∀ {xs : XL} {ds : List (NestedKey × D)}, xs.map (·.1) = ds.map (·.1) → AtL K S (xs.map fun p => V.ref p.2.1) (ds.map fun p => keyB p.1) → AtL K S (xs.map fun p => p.2.2) (ds.map fun p => p.2) → XD K S xs ds
  | [], [], _, _, _ => .nil
  | [], _ :: _, e, _, _ => by simp at e
  | _ :: _, [], e, _, _ => by simp at e
  | p :: xs, q :: ds, e, .cons h1 t1, .cons h2 t2 => by
    rw [List.map_cons, List.map_cons] at e
    injection e with e1 e2
    exact .cons ⟨e1, h1, h2⟩ (xd_of e2 t1 t2)
theorem of_xd : ∀ {xs : XL} {ds : List (NestedKey × D)}, XD K S xs ds → xs.map (·.1) = ds.map (·.1) ∧ AtL K S (xs.map fun p => V.ref p.2.1) (ds.map fun p => keyB p.1) ∧ AtL K S (xs.map fun p => p.2.2) (ds.map fun p => p.2)
  | _, _, .nil => ⟨rfl, .nil, .nil⟩
  | _, _, .cons h t => by
    obtain ⟨a, b, c⟩ := of_xd t
    refine ⟨?_, .cons h.2.1 b, .cons h.2.2 c⟩
    rw [List.map_cons, List.map_cons, a, h.1]
theorem DTok.xd (t : DTok a x ds) (r : AtL K S x.vs (dvs ds)) : XD K S x.xs ds := by
  obtain ⟨r1, r2⟩ := dct_split t r
  exact xd_of t.keys r1 r2
theorem XD.val {xs : XL} (r : XD K S xs ds) (k : NestedKey) : (valX xs k).isSome = (valD ds k).isSome := by
  induction r with
  | nil => rfl
  | @cons p q ps qs h t ih =>
    unfold valX valD at *
    rw [List.find?_cons, List.find?_cons]
    by_cases e : p.1 = k
    · rw [decide_eq_true e, decide_eq_true (h.1.symm.trans e)]; rfl
    · rw [decide_eq_false e, decide_eq_false (fun z => e (h.1.trans z))]; exact ih
theorem XD.store {xs : XL} (r : XD K S xs ds) (hb : At K S (.ref b) (keyB k)) (hv : At K S v d) : XD K S (storeX xs k b v) (putD ds k d) := by
  unfold storeX putD
  rw [r.val k]
  split
  · rename_i q
    clear q
    induction r with
    | nil => exact .nil
    | @cons p q ps qs h t ih =>
      rw [List.map_cons, List.map_cons]
      refine .cons ?_ ih
      obtain ⟨h1, h2, h3⟩ := h
      by_cases e : p.1 = k
      · rw [if_pos e, if_pos (h1.symm.trans e)]; exact ⟨h1, h2, hv⟩
      · rw [if_neg e, if_neg (fun z => e (h1.trans z))]; exact ⟨h1, h2, h3⟩
  · exact Paired.snoc r ⟨rfl, hb, hv⟩
theorem XD.drop {xs : XL} (r : XD K S xs ds) (k : NestedKey) : XD K S (dropX xs k) (dropD ds k) := by
  unfold dropX dropD
  induction r with
  | nil => exact .nil
  | @cons p q ps qs h t ih =>
    obtain ⟨h1, h2, h3⟩ := h
    rw [List.filter_cons, List.filter_cons]
    by_cases e : p.1 = k
    · have a : ¬ decide (p.1 ≠ k) = true := by simp [e]
      have b : ¬ decide (q.1 ≠ k) = true := by simp [h1.symm.trans e]
      rw [if_neg a, if_neg b]; exact ih
    · have e' : ¬ q.1 = k := fun z => e (h1.trans z)
      have a : decide (p.1 ≠ k) = true := by simp [e]
      have b : decide (q.1 ≠ k) = true := by simp [e']
      rw [if_pos a, if_pos b]; exact .cons ⟨h1, h2, h3⟩ ih
/-- a new object with a new table is a dict of these data -/
theorem NewX.tok {xs : XL} (n : NewX a xs y) (r : XD K S xs ds) (hk : ∀ p ∈ xs, keyT (keyB p.1) = some p.1) : DTok a y ds ∧ AtL K S y.vs (dvs ds) := by
  obtain ⟨rfl, h1, h2, h3, h4⟩ := n
  obtain ⟨e, r1, r2⟩ := of_xd r
  exact ⟨⟨h1, h2, e, h3, hk, h4⟩, r1.append r2⟩
theorem store_kk {xs : XL} (h : ∀ p ∈ xs, keyT (keyB p.1) = some p.1) (hk : keyT dk = some k) : ∀ p ∈ storeX xs k b v, keyT (keyB p.1) = some p.1 := fun p hp => by
  rcases storeX_mem hp with ⟨e, _⟩ | ⟨q, hq, e, _⟩
  · rw [e]; exact keyT_back hk
  · rw [← e]; exact h q hq
theorem drop_kk {xs : XL} (h : ∀ p ∈ xs, keyT (keyB p.1) = some p.1) : ∀ p ∈ dropX xs k, keyT (keyB p.1) = some p.1 := fun p hp => h p (List.mem_filter.mp hp).1
theorem putD_len (ds : List (NestedKey × D)) (k : NestedKey) (d : D) : (putD ds k d).length ≤ ds.length + 1 := by
  unfold putD
  split
  · rw [List.length_map]; omega
  · rw [List.length_append]; simp
theorem dropD_len (ds : List (NestedKey × D)) (k : NestedKey) : (dropD ds k).length ≤ ds.length := List.length_filter_le _ _
theorem at_key {K : PySem.W.Frag} {S : Hp} {v : V} {d : D} {k : NestedKey} (h : At K S v d) (e : keyT d = some k) : ∃ b, v = .ref b ∧ At K S (.ref b) (keyB k) := by
  have e2 := keyT_B e
  obtain ⟨ds, rfl, _, _⟩ := keyT_some e
  rw [e2]
  cases h with
  | tup h z r => exact ⟨_, rfl, .tup h z r⟩
theorem key_at {K : PySem.W.Frag} {S H : Hp} {b : Addr} {d : D} {k : NestedKey} (h : At K S (.ref b) d) (e : keyT d = some k) (sub : Same S H) : KeyAt K H b k := ⟨S, d, sub, h, e⟩
end

section
variable {X : Cx} {W : WX} {L : Lc} {os os1 os2 os3 : Os} {e e1 e2 e3 : Expr} {f f1 f2 f3 : Rho → Out (D × Rho)} {pos p : Pos} {td ty tx : TE} {t1 t2 : TE} {o i : Expr}
theorem pe_or (h1 : PE X e t1) (h2 : PE X e t2) : PE X e (fun σ H Q => t1 σ H Q ∨ t2 σ H Q) := ⟨fun pins s σ H Q I q => q.elim (h1.run pins s σ H Q I) (h2.run pins s σ H Q I)⟩
theorem turnX {S H : Hp} {σ : Sg} {ρ : Rho} {i : Nat} {a : Addr} {y : DX} {ds : List (NestedKey × D)} (rel : Rel X.K S H os σ ρ) (ho : os.getD i false = true) (ev : σ[i]? = some (some (.ref a))) (na : S a = none) (z : ds.length ≤ sizeLine) (t : DTok a y ds) (r : AtL X.K S y.vs (dvs ds)) :
    Rel X.K S (upd H a (DT a y)) os σ (ρ.set i (some (.dct ds))) ∧ Stp os σ S H os σ S (upd H a (DT a y)) :=
  ⟨rel.turn ho ev ⟨a, rfl, na, _, upd_same, .dct t z r⟩, Stp.turn rel ho ev⟩

/-! ### d[k] -/
def ixA : D → D → Option D
  | .dct ds, k => (keyT k).bind (valD ds)
  | d, k => ixD d k
theorem ixA_ne {d k : D} (h : ∀ ds, d ≠ .dct ds) : ixA d k = ixD d k := by
  cases d <;> first | rfl | exact (h _ rfl).elim
def tDIxN (K : PySem.W.Frag) (td ty : TE) : TE := fun σ H Q => td σ H fun x H1 => ty σ H1 fun y H2 => ∃ a b dx k v, x = .ref a ∧ y = .ref b ∧ DGood K H2 a dx ∧ KeyAt K H2 b k ∧ valX dx.xs k = some v ∧ Q v H2
theorem pe_dixN (hu : X.A.units + 64 < cLine) (ho : PE X o td) (hi : PE X i ty) (hs : PlainIx i) : PE X (.Subscript o i pos) (tDIxN X.K td ty) := by
  refine ⟨fun pins s σ H Q I h => ?_⟩
  refine subD_of PySem.F.slot_dict_getitem.lookup hs (thn (ho.run pins s σ H _ I h) fun u s1 ⟨x, H1, I1, rx, q1⟩ => thn (hi.run pins s1 σ H1 _ I1 q1) fun iv s2 ⟨y, H2, I2, ry, a, b, dx, k, v, ex, ey, g, hk, l, q2⟩ => ?_)
  subst ex ey
  obtain rfl : u = Value.ref a := rx
  obtain rfl : iv = Value.ref b := ry
  exact ⟨g.typeIs I2, dn_getItem hu I2 g hk l fun w' s3 I3 rw' => ⟨v, H2, I3, rw', q2⟩⟩
theorem ve_ixA (hu : X.A.units + 64 < cLine) (ha : VE X W os e1 f1 os1 false) (hb : VE X W os1 e2 f2 os2 false) (hs : PlainIx e2 := by exact fun _ _ => rfl) : VE X W os (.Subscript e1 e2 pos) (eOp2 ixA f1 f2) os2 false := by
  obtain ⟨t0, p0, k0⟩ : VE X W os (.Subscript e1 e2 pos) (eOp2 ixD f1 f2) os2 false := ve_ix ha hb hs
  obtain ⟨ta, pa, ka⟩ := ha
  obtain ⟨tb, pb, kb⟩ := hb
  refine ⟨_, pe_or p0 (pe_dixN hu pa pb hs), fun S σ H ρ Q rel P => ?_⟩
  by_cases hd : ∃ ds ρ1, f1 ρ = .ok (.dct ds, ρ1)
  · obtain ⟨ds, ρ1, hf⟩ := hd
    refine .inr (ka S σ H ρ _ rel ?_)
    unfold eOp2 at P
    rw [hf] at P ⊢
    intro v S1 H1 st1 rel1 q1
    have P1 : Post X W S1 H1 os1 σ os2 (RV X.K false) Q ((f2 ρ1).bind fun q => (Out.of (ixA (.dct ds) q.1)).bind fun c => .ok (c, q.2)) := Post.step RV.ok P st1
    refine kb S1 σ H1 ρ1 _ rel1 (Post.seq P1 (fun z => z) (fun c fs p => p) fun d2 ρ2 v2 S2 H2 st2 rel2 q2 P2 => ?_)
    obtain ⟨c, hc, kk⟩ := post_of (P2.step RV.ok st2) rel2
    have hc : (keyT d2).bind (valD ds) = some c := hc
    obtain ⟨k, hk, hv⟩ := Option.bind_eq_some_iff.mp hc
    have q2 : At X.K S2 v2 d2 := q2
    obtain ⟨b, rfl, hb⟩ := at_key q2 hk
    cases (At.mono st2.ext.s (show At X.K S1 v (.dct ds) from q1)) with
    | @dct a x _ h t z r =>
      rcases val_at t r k with ⟨w, d, e1, e2, hat⟩ | ⟨_, e2⟩
      · rw [hv] at e2
        cases e2
        exact ⟨a, b, x, k, w, rfl, rfl, good_of (rel2.sub _ _ h) t z r rel2.sub, key_at q2 hk rel2.sub, e1, kk w S2 H2 (Ext.refl rel2.sub) hat⟩
      · rw [hv] at e2; cases e2
  · refine .inl (k0 S σ H ρ Q rel ?_)
    have e : eOp2 ixA f1 f2 ρ = eOp2 ixD f1 f2 ρ := by
      unfold eOp2
      cases hf : f1 ρ with
      | ok z =>
        obtain ⟨d, ρ1⟩ := z
        show ((f2 ρ1).bind fun q => (Out.of (ixA d q.1)).bind fun c => .ok (c, q.2)) = (f2 ρ1).bind fun q => (Out.of (ixD d q.1)).bind fun c => .ok (c, q.2)
        congr 1
        funext q
        rw [ixA_ne fun ds z => hd ⟨ds, ρ1, by rw [hf, z]⟩]
      | exc c fs => rfl
      | stuck => rfl
    rw [← e]
    exact P
/-- x[e], x an owning name -/
def eIxA (i : Nat) (f : Rho → Out (D × Rho)) : Rho → Out (D × Rho) := fun ρ => match ρ.getD i none with
  | some (.dct _) => (f ρ).bind fun p => match p.2.getD i none with
    | some (.dct ds) => (Out.of ((keyT p.1).bind (valD ds))).bind fun c => .ok (c, p.2)
    | _ => .stuck
  | some _ => eIxO i f ρ
  | none => .stuck
theorem ve_ixAO (hu : X.A.units + 64 < cLine) (i : Nat) {x : Str} (hb : VE X W os e2 f2 os1 false) (ho : os.getD i false = true := by rfl) (ho1 : os1.getD i false = true := by rfl) (hN : X.N[i]? = some x := by rfl) (hv : Vis X.env.scope x := by first | exact Or.inl rfl | exact Or.inr (Or.inl rfl) | exact Or.inr (Or.inr rfl))
    (hs : PlainIx e2 := by exact fun _ _ => rfl) (hd : (x == ("__debug__" : Str)) = false := by decide) (hcd : (x == ("__classdict__" : Str)) = false := by decide) : VE X W os (.Subscript (.Name x p) e2 pos) (eIxA i f2) os1 false := by
  obtain ⟨t0, p0, k0⟩ : VE X W os (.Subscript (.Name x p) e2 pos) (fun ρ => match ρ.getD i none with | some _ => eIxO i f2 ρ | none => .stuck) os1 false := ve_ixO i hb ho ho1 hN hv hs hd hcd
  obtain ⟨tb, pb, kb⟩ := hb
  refine ⟨_, pe_or p0 (pe_dixN hu (pe_var hN hv hd hcd) pb hs), fun S σ H ρ Q rel P => ?_⟩
  unfold eIxA at P
  cases h0 : ρ.getD i none with
  | none => rw [h0] at P; exact P.elim
  | some d0 =>
    rw [h0] at P
    by_cases hdd : ∃ ds, d0 = .dct ds
    · obtain ⟨ds0, rfl⟩ := hdd
      obtain ⟨v, ev, _⟩ := rel.own (getD_some h0) ho
      refine .inr ⟨v, ev, kb S σ H ρ _ rel (Post.seq P (fun z => z) (fun c fs p => p) fun d2 ρ2 v2 S2 H2 st2 rel2 q2 P2 => ?_)⟩
      have P2 := P2.step RV.ok st2
      dsimp only at P2
      cases h1 : ρ2.getD i none with
      | none => rw [h1] at P2; exact P2.elim
      | some d1 =>
        rw [h1] at P2
        obtain ⟨v', ev', hown⟩ := rel2.own (getD_some h1) ho1
        rw [ev] at ev'
        cases ev'
        obtain ⟨a, ea, na, oo, eh, bd⟩ := hown
        subst ea
        cases bd with
        | @dct x ds t z r =>
          have P2 : Post X W S2 H2 os1 σ os1 (RV X.K false) Q ((Out.of ((keyT d2).bind (valD ds))).bind fun c => .ok (c, ρ2)) := P2
          obtain ⟨c, hc, kk⟩ := post_of P2 rel2
          obtain ⟨k, hk, hv⟩ := Option.bind_eq_some_iff.mp hc
          have q2 : At X.K S2 v2 d2 := q2
          obtain ⟨b, rfl, hb⟩ := at_key q2 hk
          rcases val_at t r k with ⟨w, d, e1, e2, hat⟩ | ⟨_, e2⟩
          · rw [hv] at e2
            cases e2
            exact ⟨a, b, x, k, w, rfl, rfl, good_of eh t z r rel2.sub, key_at q2 hk rel2.sub, e1, kk w S2 H2 (Ext.refl rel2.sub) hat⟩
          · rw [hv] at e2; cases e2
        | _ => exact P2.elim
    · refine .inl (k0 S σ H ρ Q rel ?_)
      dsimp only
      rw [h0]
      cases d0 <;> first | exact P | exact (hdd ⟨_, rfl⟩).elim

/-! ### k in d, len(d) -/
def inDct : D → D → Option D
  | k, .dct ds => (keyT k).map fun k => .bl (valD ds k).isSome
  | _, _ => none
def rInN (K : PySem.W.Frag) (f : Bool → Bool) : R2 := fun x y H Q => ∃ a b dx k, x = .ref b ∧ y = .ref a ∧ DGood K H a dx ∧ KeyAt K H b k ∧ Q (.bl (f (valX dx.xs k).isSome)) H
theorem op_inN (hu : X.A.units + 64 < cLine) : OpR X (compareOp .In) (rInN X.K id) := by
  intro pins s σ H x y v u Q I rx ry h
  obtain ⟨a, b, dx, k, rfl, rfl, g, hk, q⟩ := h
  obtain rfl : v = Value.ref b := rx
  obtain rfl : u = Value.ref a := ry
  exact dn_in hu I g hk fun s3 I3 => ⟨.bl _, H, I3, rfl, q⟩
theorem o_inN (hu : X.A.units + 64 < cLine) : Op2 X (compareOp .In) inDct := ⟨_, op_inN hu, fun S H x y a b c Q sub ha hb e k => by
  cases hb with
  | @dct q dx ds h t z r =>
    obtain ⟨kk, hk, rfl⟩ := Option.map_eq_some_iff.mp (show (keyT a).map _ = some c from e)
    obtain ⟨b', rfl, hb'⟩ := at_key ha hk
    refine ⟨q, b', dx, kk, rfl, rfl, good_of (sub _ _ h) t z r sub, key_at ha hk sub, ?_⟩
    rw [(t.xd r).val kk]
    exact k _ S H (Ext.refl sub) (.bl _)
  | _ => cases e⟩
def inA : D → D → Option D := fun a b => match inDct a b with | some c => some c | none => inD a b
theorem o_inA (hu : X.A.units + 65 < cLine) : Op2 X (compareOp .In) inA := (o_inN (by omega)).or (o_in hu)
def lenDct : List D → Option D
  | [.dct ds] => some (.int ds.length)
  | _ => none
def rLenN (K : PySem.W.Frag) : List V → Hp → VK → Prop := fun xs H Q => ∃ a dx, xs = [.ref a] ∧ DGood K H a dx ∧ Q (.int (dx.xs.length : Nat)) H
theorem call_lenN : CallR X (.builtin "len") (rLenN X.K) := by
  intro pins s σ H xs us Q I r h
  obtain ⟨a, dx, rfl, g, q⟩ := h
  obtain ⟨u, rfl, rx⟩ := vals1 r
  obtain rfl : u = Value.ref a := rx
  exact dn_len I g fun t s' I' => ⟨.int (dx.xs.length : Nat), H, I', ⟨t, rfl⟩, q⟩
theorem c_lenN : CallD X (.builtin "len") lenDct := ⟨_, call_lenN, fun S H vs ds c Q sub ha e k => by
  unfold lenDct at e
  split at e
  · cases e
    match vs, ha with
    | [_], .cons (.dct (a := a) (x := dx) h t z r) .nil =>
      refine ⟨a, dx, rfl, good_of (sub _ _ h) t z r sub, ?_⟩
      rw [t.len]
      exact k _ S H (Ext.refl sub) (.int _)
  · cases e⟩
def lenA : List D → Option D := fun ds => match lenD ds with | some c => some c | none => lenDct ds
theorem c_lenA : CallD X (.builtin "len") lenA := c_len.or c_lenN

/-! ### d.get(k, z) -/
def tDGetN (K : PySem.W.Frag) (td ty tx : TE) : TE := fun σ H Q => td σ H fun x H1 => ∃ a dx0, x = .ref a ∧ DGood K H1 a dx0 ∧ ty σ H1 fun y H2 => tx σ H2 fun z H3 => ∃ b dx k, y = .ref b ∧ DGood K H3 a dx ∧ KeyAt K H3 b k ∧ Q ((valX dx.xs k).getD z) H3
theorem pe_dgetN {apos cpos : Pos} (hu : X.A.units + 64 < cLine) (ho : PE X o td) (he : PE X e ty) (hf : PE X e2 tx) (m : M2 X o "get" apos e e2 cpos) : PE X (.Call (.Attribute o "get" apos) [e, e2] [] cpos) (tDGetN X.K td ty tx) := by
  refine ⟨fun pins s σ H Q I h => ?_⟩
  refine wpAny_Call_method m.base m.few m.line PySem.F.plainAttrs_dict PySem.F.slot_dict_get PySem.F.type_dict_get (thn (ho.run pins s σ H _ I h) fun u s1 ⟨x, H1, I1, rx, a, dx0, ex, g0, q1⟩ => ?_)
  subst ex
  obtain rfl : u = Value.ref a := rx
  refine ⟨g0.typeIs I1, g0.noDict I1, ?_⟩
  rw [m.trees]
  refine Calls.callWith_builtin rfl (Calls.evalArgs_plain (Calls.spliced_cons (thn (he.run pins s1 σ H1 _ I1 q1) fun iv s2 ⟨y, H2, I2, ry, q2⟩ =>
    Calls.spliced_cons (thn (hf.run pins s2 σ H2 _ I2 q2) fun fv s3 ⟨z, H3, I3, rz, b, dx, k, ey, g, hk, q3⟩ => Calls.spliced_nil ?_))))
  subst ey
  obtain rfl : iv = Value.ref b := ry
  exact dn_get2 hu I3 g hk rz fun w' s4 I4 rw' => ⟨_, H3, I4, rw', q3⟩
/-- d.get(k, z), d a dict that stands -/
def eDGet (f g h : Rho → Out (D × Rho)) : Rho → Out (D × Rho) := fun ρ => (f ρ).bind fun p => match p.1 with
  | .dct ds => (g p.2).bind fun q => (h q.2).bind fun r => (Out.of ((keyT q.1).map fun k => (valD ds k).getD r.1)).bind fun c => .ok (c, r.2)
  | _ => .stuck
theorem val_getD {K : PySem.W.Frag} {S : Hp} {a : Addr} {x : DX} {ds : List (NestedKey × D)} {k : NestedKey} {z : V} {d : D} (t : DTok a x ds) (r : AtL K S x.vs (dvs ds)) (hz : At K S z d) : At K S ((valX x.xs k).getD z) ((valD ds k).getD d) := by
  rcases val_at t r k with ⟨w, d', e1, e2, hat⟩ | ⟨e1, e2⟩
  · rw [e1, e2]; exact hat
  · rw [e1, e2]; exact hz
/-- d.get(k, z), d an owning name -/
def eDGetO (i : Nat) (g h : Rho → Out (D × Rho)) : Rho → Out (D × Rho) := fun ρ => match ρ.getD i none with
  | some (.dct _) => (g ρ).bind fun q => (h q.2).bind fun r => (match r.2.getD i none with
    | some (.dct ds) => (Out.of ((keyT q.1).map fun k => (valD ds k).getD r.1)).bind fun c => .ok (c, r.2)
    | _ => .stuck)
  | _ => .stuck
theorem ve_dgetO {apos cpos : Pos} (hu : X.A.units + 64 < cLine) (i : Nat) {x : Str} (h2 : VE X W os e2 f2 os2 false) (h3 : VE X W os2 e3 f3 os3 false)
    (ho : os.getD i false = true := by rfl) (ho3 : os3.getD i false = true := by rfl) (hN : X.N[i]? = some x := by rfl) (hv : Vis X.env.scope x := by first | exact Or.inl rfl | exact Or.inr (Or.inl rfl) | exact Or.inr (Or.inr rfl)) (hd : (x == ("__debug__" : Str)) = false := by decide) (hcd : (x == ("__classdict__" : Str)) = false := by decide)
    (m1 : attributeBase (.Name x p) "get" X.env (eval (.Name x p) X.env) = eval (.Name x p) X.env := by rfl) (m2 : ((backTo cpos (starEach [e2, e3] X.env)).all (fun x => !x.1) && (backToKw cpos (keywordEach [] X.env)).all (fun x => x.1.isSome)
    && decide (([e2, e3] : List Expr).length + ([] : List Keyword).length + (if ([] : List Keyword).isEmpty then 0 else 1) < 30)) = true := by rfl) (m3 : (apos.endLine == cpos.line) = true := by rfl) (m4 : backTo cpos (starEach [e2, e3] X.env) = [(false, eval e2 X.env), (false, eval e3 X.env)] := by rfl) :
    VE X W os (.Call (.Attribute (.Name x p) "get" apos) [e2, e3] [] cpos) (eDGetO i f2 f3) os3 false := by
  obtain ⟨tb, pb, kb⟩ := h2
  obtain ⟨tc, pc, kc⟩ := h3
  refine ⟨_, pe_dgetN hu (pe_var hN hv hd hcd) pb pc ⟨m1, m2, m3, m4⟩, fun S σ H ρ Q rel P => ?_⟩
  unfold eDGetO at P
  cases h0 : ρ.getD i none with
  | none => rw [h0] at P; exact P.elim
  | some d0 =>
    rw [h0] at P
    obtain ⟨v, ev, hown⟩ := rel.own (getD_some h0) ho
    obtain ⟨a, ea, na, oo, eh, bd⟩ := hown
    subst ea
    refine ⟨.ref a, ev, ?_⟩
    cases bd with
    | @dct x0 ds0 t0 z0 r0 =>
      refine ⟨a, x0, rfl, good_of eh t0 z0 r0 rel.sub, ?_⟩
      refine kb S σ H ρ _ rel (Post.seq P (fun z => z) (fun c fs p => p) fun d2 ρ2 v2 S2 H2 st2 rel2 q2 P2 => ?_)
      have P2 := P2.step RV.ok st2
      refine kc S2 σ H2 ρ2 _ rel2 (Post.seq P2 (fun z => z) (fun c fs p => p) fun d3 ρ3 v3 S3 H3 st3 rel3 q3 P3 => ?_)
      have P3 := P3.step RV.ok st3
      dsimp only at P3
      cases h3 : ρ3.getD i none with
      | none => rw [h3] at P3; exact P3.elim
      | some d1 =>
        rw [h3] at P3
        obtain ⟨v', ev', hown⟩ := rel3.own (getD_some h3) ho3
        rw [ev] at ev'
        cases ev'
        obtain ⟨a', ea, na', oo, eh, bd⟩ := hown
        cases ea
        cases bd with
        | @dct x ds t z r =>
          have P3 : Post X W S3 H3 os3 σ os3 (RV X.K false) Q ((Out.of ((keyT d2).map fun k => (valD ds k).getD d3)).bind fun c => .ok (c, ρ3)) := P3
          obtain ⟨c, hc, kk⟩ := post_of P3 rel3
          obtain ⟨k, hk, rfl⟩ := Option.map_eq_some_iff.mp hc
          have q2 : At X.K S3 v2 d2 := At.mono st3.ext.s q2
          obtain ⟨b, rfl, hb⟩ := at_key q2 hk
          exact ⟨b, x, k, rfl, good_of eh t z r rel3.sub, key_at q2 hk rel3.sub, kk _ S3 H3 (Ext.refl rel3.sub) (val_getD t r q3)⟩
        | _ => exact P3.elim
    | _ => exact P.elim

/-! ### d.pop(k), d[k] = v, {} -/
def tDPopN (K : PySem.W.Frag) (td ty : TE) : TE := fun σ H Q => td σ H fun x H1 => ∃ a dx0, x = .ref a ∧ DGood K H1 a dx0 ∧ ty σ H1 fun y H2 => ∃ b dx k v, y = .ref b ∧ DGood K H2 a dx ∧ KeyAt K H2 b k ∧ valX dx.xs k = some v ∧ ∀ n, NewX a (dropX dx.xs k) n → Q v (upd H2 a (DT a n))
theorem pe_dpopN {apos cpos : Pos} (hu : X.A.units + 64 < cLine) (ho : PE X o td) (he : PE X e ty) (m : M1 X o "pop" apos e cpos) : PE X (.Call (.Attribute o "pop" apos) [e] [] cpos) (tDPopN X.K td ty) := by
  refine ⟨fun pins s σ H Q I h => ?_⟩
  refine wpAny_Call_method m.base m.few m.line PySem.F.plainAttrs_dict PySem.F.slot_dict_pop PySem.F.type_dict_pop (thn (ho.run pins s σ H _ I h) fun u s1 ⟨x, H1, I1, rx, a, dx0, ex, g0, q1⟩ => ?_)
  subst ex
  obtain rfl : u = Value.ref a := rx
  refine ⟨g0.typeIs I1, g0.noDict I1, ?_⟩
  rw [m.trees]
  refine Calls.callWith_builtin rfl (Calls.evalArgs_plain (Calls.spliced_cons (thn (he.run pins s1 σ H1 _ I1 q1) fun iv s2 ⟨y, H2, I2, ry, b, dx, k, v, ey, g, hk, l, q2⟩ => Calls.spliced_nil ?_)))
  subst ey
  obtain rfl : iv = Value.ref b := ry
  exact dn_pop hu I2 g hk l fun n w' s3 hn rw' I3 => ⟨v, _, I3, rw', q2 n hn⟩
def eDPop (i : Nat) (g : Rho → Out (D × Rho)) : Rho → Out (D × Rho) := fun ρ => match ρ.getD i none with
  | some (.dct _) => (g ρ).bind fun q => (match q.2.getD i none with
    | some (.dct ds) => (Out.of ((keyT q.1).bind fun k => (valD ds k).map fun c => (c, dropD ds k))).bind fun c => .ok (c.1, q.2.set i (some (.dct c.2)))
    | _ => .stuck)
  | _ => .stuck
theorem ve_dpop {apos cpos : Pos} (hu : X.A.units + 64 < cLine) (i : Nat) {x : Str} (h2 : VE X W os e2 f2 os2 false)
    (ho : os.getD i false = true := by rfl) (ho2 : os2.getD i false = true := by rfl) (hN : X.N[i]? = some x := by rfl) (hv : Vis X.env.scope x := by first | exact Or.inl rfl | exact Or.inr (Or.inl rfl) | exact Or.inr (Or.inr rfl)) (hd : (x == ("__debug__" : Str)) = false := by decide) (hcd : (x == ("__classdict__" : Str)) = false := by decide)
    (m1 : attributeBase (.Name x p) "pop" X.env (eval (.Name x p) X.env) = eval (.Name x p) X.env := by rfl) (m2 : ((backTo cpos (starEach [e2] X.env)).all (fun x => !x.1) && (backToKw cpos (keywordEach [] X.env)).all (fun x => x.1.isSome)
    && decide (([e2] : List Expr).length + ([] : List Keyword).length + (if ([] : List Keyword).isEmpty then 0 else 1) < 30)) = true := by rfl) (m3 : (apos.endLine == cpos.line) = true := by rfl) (m4 : backTo cpos (starEach [e2] X.env) = [(false, eval e2 X.env)] := by rfl) :
    VE X W os (.Call (.Attribute (.Name x p) "pop" apos) [e2] [] cpos) (eDPop i f2) os2 false := by
  obtain ⟨tb, pb, kb⟩ := h2
  refine ⟨_, pe_dpopN hu (pe_var hN hv hd hcd) pb ⟨m1, m2, m3, m4⟩, fun S σ H ρ Q rel P => ?_⟩
  unfold eDPop at P
  cases h0 : ρ.getD i none with
  | none => rw [h0] at P; exact P.elim
  | some d0 =>
    rw [h0] at P
    obtain ⟨v, ev, hown⟩ := rel.own (getD_some h0) ho
    obtain ⟨a, ea, na, oo, eh, bd⟩ := hown
    subst ea
    refine ⟨.ref a, ev, ?_⟩
    cases bd with
    | @dct x0 ds0 t0 z0 r0 =>
      refine ⟨a, x0, rfl, good_of eh t0 z0 r0 rel.sub, ?_⟩
      refine kb S σ H ρ _ rel (Post.seq P (fun z => z) (fun c fs p => p) fun d2 ρ2 v2 S2 H2 st2 rel2 q2 P2 => ?_)
      have P2 := P2.step RV.ok st2
      dsimp only at P2
      cases h2 : ρ2.getD i none with
      | none => rw [h2] at P2; exact P2.elim
      | some d1 =>
        rw [h2] at P2
        obtain ⟨v', ev', hown⟩ := rel2.own (getD_some h2) ho2
        rw [ev] at ev'
        cases ev'
        obtain ⟨a', ea, na', oo, eh, bd⟩ := hown
        cases ea
        cases bd with
        | @dct x ds t z r =>
          have P2 : Post X W S2 H2 os2 σ os2 (RV X.K false) Q ((Out.of ((keyT d2).bind fun k => (valD ds k).map fun c => (c, dropD ds k))).bind fun c => .ok (c.1, ρ2.set i (some (.dct c.2)))) := P2
          cases hk : keyT d2 with
          | none => rw [hk] at P2; exact P2.elim
          | some k =>
            rw [hk] at P2
            have q2 : At X.K S2 v2 d2 := q2
            obtain ⟨b, rfl, hb⟩ := at_key q2 hk
            rcases val_at t r k with ⟨w, d, e1, e2, hat⟩ | ⟨_, e2⟩
            · have P2 : Post X W S2 H2 os2 σ os2 (RV X.K false) Q ((Out.of ((valD ds k).map fun c => (c, dropD ds k))).bind fun c => .ok (c.1, ρ2.set i (some (.dct c.2)))) := P2
              rw [e2] at P2
              refine ⟨b, x, k, w, rfl, good_of eh t z r rel2.sub, key_at q2 hk rel2.sub, e1, fun n hn => ?_⟩
              obtain ⟨t', r'⟩ := hn.tok ((t.xd r).drop k) (drop_kk t.kk)
              obtain ⟨rel3, st3⟩ := turnX rel2 ho2 ev na' (Nat.le_trans (dropD_len ds k) z) t' r'
              exact P2 w S2 _ st3 rel3 hat
            · have P2 : Post X W S2 H2 os2 σ os2 (RV X.K false) Q ((Out.of ((valD ds k).map fun c => (c, dropD ds k))).bind fun c => .ok (c.1, ρ2.set i (some (.dct c.2)))) := P2
              rw [e2] at P2
              exact P2.elim
        | _ => exact P2.elim
    | _ => exact P.elim
/-- {} -/
def tDNewN : TE := fun _ H Q => ∀ p y, H p = none → NewX p [] y → Q (.ref p) (upd H p (DT p y))
theorem pe_dnewN : PE X (.Dict [] [] pos) tDNewN := ⟨fun pins s σ H Q I h => by
  have ho : (s.heap.push { cls := .type "dict", data := .dict #[] }).get? s.heap.objs.size = some { cls := .type "dict", data := .dict #[] } := Heap.get?_push_size _ rfl
  refine wpAny_Dict_empty ⟨.ref s.heap.objs.size, _, I.laid (a := s.heap.objs.size) (o := DT s.heap.objs.size ⟨{ cls := .type "dict", data := .dict #[] }, []⟩) (t' := s.toks) (fun _ _ q => Heap.get?_push_of_some _ q) (Nat.le_refl _) (dt_ok ho), rfl, h _ _ (I.hok.fresh (Nat.le_refl _)) ?_⟩
  exact ⟨rfl, beq_eq_false_iff_ne.mpr (Ne.symm (Nat.ne_of_lt I.big)), ⟨rfl, rfl, rfl⟩, List.nodup_nil, #[], 0, rfl, .nil⟩⟩
def eDNew : Rho → Out (D × Rho) := fun ρ => .ok (.dct [], ρ)
theorem OwnAt.mkX {K : PySem.W.Frag} {S H : Hp} {a : Addr} {y : DX} {ds : List (NestedKey × D)} (n : S a = none) (h : H a = some (DT a y)) (t : DTok a y ds) (z : ds.length ≤ sizeLine) (r : AtL K S y.vs (dvs ds)) : OwnAt K S H (.ref a) (.dct ds) := ⟨a, rfl, n, _, h, .dct t z r⟩
theorem ve_dnew : VE X W os (.Dict [] [] pos) eDNew os true := ⟨_, pe_dnewN, fun S σ H ρ Q rel P p y np hn => by
  have xx := Ext.newO (O := fun _ => False) (o := DT p y) rel.sub np
  obtain ⟨t, r⟩ := hn.tok (K := X.K) (S := S) (ds := []) .nil fun p hp => by cases hp
  exact P (.ref p) S _ (Stp.of_ext xx) (rel.ext0 xx) ⟨.mkX (rel.sub.free np) upd_same t (Nat.zero_le _) r, fun a e => by cases e; exact np⟩⟩

def sDPutN (K : PySem.W.Frag) (td ty tv : TE) : TS := fun Ds σ H => tv σ H fun v H1 => td σ H1 fun x H2 => ty σ H2 fun y H3 => ∃ a b dx k, x = .ref a ∧ y = .ref b ∧ DGood K H3 a dx ∧ KeyAt K H3 b k ∧ ∀ n, NewX a (storeX dx.xs k b v) n → Ds.nx σ (upd H3 a (DT a n))
theorem ps_dputN {value : Expr} {pos' : Pos} {tv : TE} (hu : X.A.units + 64 < cLine) (ho : PE X o td) (hi : PE X i ty) (hv : PE X value tv) (hs : swapsWith value (some (.Subscript o i pos')) pos.line X.env = pure false) :
    PS X (.Assign [.Subscript o i pos'] value pos) (sDPutN X.K td ty tv) := by
  refine ⟨fun pins s σ H D I h => ?_⟩
  refine wpAny_Assign_Subscript (thn (hv.run pins s σ H _ I h) fun r s1 ⟨v, H1, I1, rv, q1⟩ => thn (ho.run pins s1 σ H1 _ I1 q1) fun u s2 ⟨x, H2, I2, rx, q2⟩ => thn (hi.run pins s2 σ H2 _ I2 q2) fun iv s3 ⟨y, H3, I3, ry, a, b, dx, k, ex, ey, g, hk, q3⟩ => ?_) hs
  subst ex ey
  obtain rfl : u = Value.ref a := rx
  obtain rfl : iv = Value.ref b := ry
  exact dn_setItem hu I3 g hk rv fun n s4 hn I4 => ⟨σ, _, I4, q3 n hn⟩
theorem ps_or {st : Stmt} {t1 t2 : TS} (h1 : PS X st t1) (h2 : PS X st t2) : PS X st (fun D σ H => t1 D σ H ∨ t2 D σ H) := ⟨fun pins s σ H D I q => q.elim (h1.run pins s σ H D I) (h2.run pins s σ H D I)⟩
/-- x[fi] = f, x an owning name: a list or a dict -/
def sSetA (i : Nat) (f fi : Rho → Out (D × Rho)) : Rho → Out Fl := fun ρ => match ρ.getD i none with
  | some (.dct _) => (f ρ).bind fun p => (match p.2.getD i none with
    | some (.dct _) => (fi p.2).bind fun q => (match q.2.getD i none with
      | some (.dct ds) => (Out.of ((keyT q.1).bind fun k => if ds.length < sizeLine then some (putD ds k p.1) else none)).bind fun c => .ok (.nx (q.2.set i (some (.dct c))))
      | _ => .stuck)
    | _ => .stuck)
  | _ => sSetIx i f fi ρ
theorem vs_setA (hu : X.A.units + 64 < cLine) (i : Nat) {x : Str} {px ps : Pos} {ie : Expr} {fi : Rho → Out (D × Rho)} (hv : VE X W os e f os1 false) (hi : VE X W os1 ie fi os2 false) (ho : os.getD i false = true := by rfl) (ho1 : os1.getD i false = true := by rfl) (ho2 : os2.getD i false = true := by rfl) (hN : X.N[i]? = some x := by rfl)
    (hvis : Vis X.env.scope x := by first | exact Or.inl rfl | exact Or.inr (Or.inl rfl) | exact Or.inr (Or.inr rfl)) (hd : (x == ("__debug__" : Str)) = false := by decide) (hcd : (x == ("__classdict__" : Str)) = false := by decide)
    (ha : ∀ v, assign (.Subscript (.Name x px) ie ps) X.env v = (do
      let ov ← holding [v] (eval (.Name x px) X.env)
      let iv ← holding [v, ov] (eval ie X.env)
      standAt ps
      holding [v, ov, iv] (setItem ov iv v)
      release [v, ov, iv] []) := by intro _; rfl) (hs : swapsWithSole [.Subscript (.Name x px) ie ps] e pos.line X.env = pure false := by rfl) (hw : swappedStores [.Subscript (.Name x px) ie ps] e X.env = pure none := by rfl)
    (h1 : (assignEach [.Subscript (.Name x px) ie ps] X.env).map (·.2) = [assign (.Subscript (.Name x px) ie ps) X.env] := by rfl) (hs2 : swapsWith e (some (.Subscript (.Name x px) ie ps)) pos.line X.env = pure false := by rfl) :
    VS X W L os (.Assign [.Subscript (.Name x px) ie ps] e pos) (sSetA i f fi) os2 := by
  obtain ⟨t0, p0, k0⟩ : VS X W L os (.Assign [.Subscript (.Name x px) ie ps] e pos) (sSetIx i f fi) os2 := vs_setIx i hv hi ho1 ho2 hN hvis hd hcd ha hs hw h1
  obtain ⟨t, pt, kt⟩ := hv
  obtain ⟨ti, pi, ki⟩ := hi
  refine ⟨_, ps_or p0 (ps_dputN hu (pe_var hN hvis hd hcd) pi pt hs2), fun S σ H ρ Ds rel P => ?_⟩
  by_cases hdd : ∃ ds, ρ.getD i none = some (.dct ds)
  · obtain ⟨ds0, h0⟩ := hdd
    unfold sSetA at P
    rw [h0] at P
    refine .inr ?_
    refine kt S σ H ρ _ rel (PostS.seqE P fun d ρ1 v S1 H1 s1 r1 q1 P1 => ?_)
    dsimp only at P1
    cases hx : ρ1.getD i none with
    | none => rw [hx] at P1; exact P1.elim
    | some d1 =>
      rw [hx] at P1
      obtain ⟨u, eu, _⟩ := r1.own (getD_some hx) ho1
      refine ⟨u, eu, ?_⟩
      have P1 : PostS X W L S1 H1 os1 σ os2 Ds ((fi ρ1).bind fun q => (match q.2.getD i none with
        | some (.dct ds) => (Out.of ((keyT q.1).bind fun k => if ds.length < sizeLine then some (putD ds k d) else none)).bind fun c => .ok (.nx (q.2.set i (some (.dct c))))
        | _ => .stuck)) := by
        cases d1 <;> first | exact P1 | exact P1.elim
      refine ki S1 σ H1 ρ1 _ r1 (PostS.seqE P1 fun d2 ρ2 v2 S2 H2 s2 r2 q2 P2 => ?_)
      dsimp only at P2
      cases hx2 : ρ2.getD i none with
      | none => rw [hx2] at P2; exact P2.elim
      | some d3 =>
        rw [hx2] at P2
        obtain ⟨u', eu', hown⟩ := r2.own (getD_some hx2) ho2
        rw [eu] at eu'
        cases eu'
        obtain ⟨a, ea, na, oo, eh, bd⟩ := hown
        subst ea
        cases bd with
        | @dct x ds t z r =>
          have P2 : PostS X W L S2 H2 os2 σ os2 Ds ((Out.of ((keyT d2).bind fun k => if ds.length < sizeLine then some (putD ds k d) else none)).bind fun c => .ok (.nx (ρ2.set i (some (.dct c))))) := P2
          cases hk : keyT d2 with
          | none => rw [hk] at P2; exact P2.elim
          | some k =>
            rw [hk] at P2
            have q2 : At X.K S2 v2 d2 := q2
            obtain ⟨b, rfl, hb⟩ := at_key q2 hk
            by_cases hz : ds.length < sizeLine
            · have P2 : PostS X W L S2 H2 os2 σ os2 Ds ((Out.of (if ds.length < sizeLine then some (putD ds k d) else none)).bind fun c => .ok (.nx (ρ2.set i (some (.dct c))))) := P2
              rw [if_pos hz] at P2
              refine ⟨a, b, x, k, rfl, rfl, good_of eh t z r r2.sub, key_at q2 hk r2.sub, fun n hn => ?_⟩
              obtain ⟨t', r'⟩ := hn.tok ((t.xd r).store hb (At.mono s2.ext.s (show At X.K S1 v d from q1))) (store_kk t.kk hk)
              obtain ⟨r3, st3⟩ := turnX r2 ho2 eu na (by have := putD_len ds k d; omega) t' r'
              exact P2 σ S2 _ st3 FixOn.refl r3
            · have P2 : PostS X W L S2 H2 os2 σ os2 Ds ((Out.of (if ds.length < sizeLine then some (putD ds k d) else none)).bind fun c => .ok (.nx (ρ2.set i (some (.dct c))))) := P2
              rw [if_neg hz] at P2
              exact P2.elim
        | _ => exact P2.elim
  · refine .inl (k0 S σ H ρ Ds rel ?_)
    have e : sSetA i f fi ρ = sSetIx i f fi ρ := by
      unfold sSetA
      split
      · rename_i ds h; exact (hdd ⟨ds, h⟩).elim
      · rfl
    rw [← e]
    exact P

/-! ### for x in d -/
/-- the dict's object at a, walked by its keys -/
def Itkn (K : PySem.W.Frag) (a : Addr) (x : DX) : It :=
  ⟨fun i H => DGood K H a x ∧ i < x.xs.length, fun i H v H' => H' = H ∧ ∃ p, x.xs[i]? = some p ∧ v = .ref p.2.1, fun i H => DGood K H a x ∧ x.xs.length ≤ i⟩
theorem EnL.get {es : List DictEntry} {xs : XL} (h : EnL es xs) {i : Nat} {p : NestedKey × Addr × V} (e : xs[i]? = some p) : ∃ en, es[i]? = some en ∧ en.key = .ref p.2.1 ∧ RelV p.2.2 en.val := by
  induction h generalizing i with
  | nil => simp at e
  | @cons a b as bs h t ih =>
    cases i with
    | zero => cases (show some b = some p by simpa using e); exact ⟨a, rfl, h.2.1, h.2.2⟩
    | succ j => simpa using ih (i := j) (by simpa using e)
theorem turn_keysN {P : Program} {w : World} {K : PySem.W.Frag} {tg : Expr} {a : Addr} {x : DX} {es : Array DictEntry} {ep : Nat} (it : Addr) (hod : x.o.data = .dict es ep) : Turn P w K tg (Itkn K a x) [it] it (fun i h => h.IsKeyIter it a i x.xs.length ep) where
  mem := by simp
  obj := fun i h st b hb => by
    have e : b = it := by simpa using hb
    subst e
    obtain ⟨oi, e, c, dd⟩ := st
    exact ⟨oi, e, fun v z => by rw [dd] at z; cases z⟩
  keep := fun i h h' st k => st.at fun oi e => k it (by simp) oi e
  item := by
    intro X hP hw hK hc i pins s σ H E I hf st hg
    subst hP hw hK
    obtain ⟨g, hi⟩ := hg
    obtain ⟨f0, f1, f2, f3, f4, f5⟩ := hf it (by simp)
    obtain ⟨ys, _, _, _, ho⟩ := g.dict I
    obtain ⟨es', ep', hdt, en⟩ := g.ens
    obtain ⟨rfl, rfl⟩ := dict_ep hod hdt
    have hsz : es'.size = x.xs.length := by rw [← Paired.length en, Array.length_toList]
    obtain ⟨en', hen, hkey, _⟩ := en.get (List.getElem?_eq_getElem hi)
    refine next_key_item st ho hdt hsz (by rw [← Array.getElem?_toList]; exact hen) fun h' st' sb => ?_
    have I1 : Inv X pins σ H { s with heap := h' } := I.turned (t' := s.toks) (fun b ob hb e => (sb.2 b hb).trans e) f0 f1 f3 f4 f5
    obtain ⟨oi, e, c, dd⟩ := id st'
    exact ⟨en'.key, rfl, go_of (s := { s with heap := h' }) e c dd (by decide) ⟨.ref (x.xs[i]).2.1, H, I1, hkey, ⟨rfl, _, List.getElem?_eq_getElem hi, rfl⟩, st', fun b hb => (hf b hb).1⟩⟩
  done := by
    intro X hP hw hK hc i pins s σ H E I hf st hg
    subst hP hw hK
    obtain ⟨g, hi⟩ := hg
    obtain ⟨f0, f1, f2, f3, f4, f5⟩ := hf it (by simp)
    obtain ⟨ys, _, _, _, ho⟩ := g.dict I
    obtain ⟨es', ep', hdt, en⟩ := g.ens
    obtain ⟨rfl, rfl⟩ := dict_ep hod hdt
    have hsz : es'.size = x.xs.length := by rw [← Paired.length en, Array.length_toList]
    exact next_key_end (I.ok.hd hc) st ho hdt hsz hi fun h' eb => ⟨rfl, I.turned (t' := s.toks) (fun b ob hb e => eb b ob hb e) f0 f1 f3 f4 f5⟩
  self := fun A i s Q E st h => by
    refine wpAny_pyIter_slot st.typeIs F.slot_dict_keyiterator_iter (wpAny_call_entry F.slot_dict_keyiterator_iter st.typeIs F.entry_dict_keyiterator_iter ?_ (F.args_dict_keyiterator_iter_1 _))
    show wpAny _ _ (ret (.ref it)) _ _ s
    exact wpAny_pure ⟨_, rfl, "dict_keyiterator", _, st.typeIs, F.slot_dict_keyiterator_next.lookup, h⟩
def iKeysN (K : PySem.W.Frag) (td : TE) : TI := fun σ H R => td σ H fun v H1 => ∃ a x, v = .ref a ∧ DGood K H1 a x ∧ R (Itkn K a x) H1
theorem pi_keysN {tg : Expr} (he : PE X e td) : PI X tg e (iKeysN X.K td) := by
  refine ⟨fun pins s σ H R I h => ?_⟩
  refine thn (he.run pins s σ H _ I h) fun u s1 ⟨v, H1, I1, rx, a, x, ex, g, q⟩ => ?_
  subst ex
  obtain rfl : u = Value.ref a := rx
  obtain ⟨ys, _, _, _, ho⟩ := g.dict I1
  obtain ⟨es, ep, hdt, en⟩ := g.ens
  have hsz : es.size = x.xs.length := by rw [← Paired.length en, Array.length_toList]
  refine iter_keys g.sys ho g.ex hdt (pi_one (tk := s1.toks) I1 _ (turn_keysN _ hdt) ⟨_, Heap.get?_push_size _ rfl, rfl, ?_⟩ q)
  rw [hsz] <;> rfl
def itemsA : D → Option (List D)
  | .dct ds => some (ds.map fun p => keyB p.1)
  | d => itemsOf d
theorem itemsA_ne {d : D} (h : ∀ ds, d ≠ .dct ds) : itemsA d = itemsOf d := by
  cases d <;> first | rfl | exact (h _ rfl).elim
def iSeqA (f : Rho → Out (D × Rho)) : Rho → Out (List D × Rho) := fun ρ => (f ρ).bind fun p => (Out.of (itemsA p.1)).bind fun c => .ok (c, p.2)
theorem itAt_keys {K : PySem.W.Frag} {S : Hp} {a : Addr} {x : DX} {ds : List (NestedKey × D)} (h : S a = some (DT a x)) (t : DTok a x ds) (z : ds.length ≤ sizeLine) (r : AtL K S x.vs (dvs ds)) : ItAt K S (Itkn K a x) (ds.map fun p => keyB p.1) := by
  refine ⟨by rw [List.length_map]; exact z, fun i S' H' s1 s2 => ?_⟩
  have g : DGood K H' a x := good_of (s2 _ _ (s1 _ _ h)) t z (r.mono s1) s2
  refine ⟨fun hi => ⟨g, by rw [t.len]; rw [List.length_map] at hi; exact hi⟩, fun d hd => ?_⟩
  obtain ⟨r1, _⟩ := dct_split t r
  have hi : i < x.xs.length := by
    have := (List.getElem?_eq_some_iff.mp hd).1
    rw [List.length_map] at this
    rw [t.len]; exact this
  obtain ⟨v, ev, hat⟩ := r1.get hd
  refine ⟨⟨g, hi⟩, fun u H2 y => ?_⟩
  obtain ⟨rfl, p, ep, rfl⟩ := y
  rw [List.getElem?_map, ep] at ev
  cases ev
  exact ⟨S', Ext.refl s2, hat.mono s1⟩
theorem vi_seqA {tg : Expr} (he : VE X W os e f os1 false) : VI X W os tg e (iSeqA f) os1 := by
  obtain ⟨w0, p0, k0⟩ : VI X W os tg e (iSeq f) os1 := vi_seq he
  obtain ⟨t, pt, kt⟩ := he
  refine ⟨_, pi_or p0 (pi_keysN pt), fun S σ H ρ R rel P => ?_⟩
  by_cases hd : ∃ ds ρ1, f ρ = .ok (.dct ds, ρ1)
  · obtain ⟨ds, ρ1, hf⟩ := hd
    refine .inr (kt S σ H ρ _ rel ?_)
    unfold iSeqA at P
    rw [hf] at P ⊢
    intro v S1 H1 st1 rel1 q1
    cases (show At X.K S1 v (.dct ds) from q1) with
    | @dct a x _ h t z r => exact ⟨a, x, rfl, good_of (rel1.sub _ _ h) t z r rel1.sub, P _ S1 H1 st1 rel1 (itAt_keys h t z r)⟩
  · refine .inl (k0 S σ H ρ R rel ?_)
    have e : iSeqA f ρ = iSeq f ρ := by
      unfold iSeqA iSeq
      cases hf : f ρ with
      | ok z =>
        obtain ⟨d, ρ1⟩ := z
        show ((Out.of (itemsA d)).bind fun c => .ok (c, ρ1)) = (Out.of (itemsOf d)).bind fun c => .ok (c, ρ1)
        rw [itemsA_ne fun ds z => hd ⟨ds, ρ1, by rw [hf, z]⟩]
      | exc c fs => rfl
      | stuck => rfl
    rw [← e]
    exact P
end
end SW

set_option maxRecDepth 100000
/-! SW18: sorted, by a key too; of lists, tuples, dicts. -/
namespace SW
open PySem PySem.Spec PyProof.Rows L2
open PySem.W (EachIs dataLe AllAlike Sortable alike)

section
variable {X : Cx} {pins : List (Addr × Obj)} {σ : L2.St} {S H : Hp} {s : Shared} {E : Value → Shared → Prop}
theorem each_of_at (I : Inv X pins σ H s) (sub : Same S H) : ∀ {vs : List V} {ds : List D} {us : List Value} {ps : List PyData}, AtL X.K S vs ds → Vals vs us → ds.map D.py = ps.map some → EachIs (fun v p => ∃ as, Reads s.heap v p as) us ps
  | _, _, _, [], .nil, .nil, _ => .nil
  | _, _, _, _ :: _, .nil, .nil, e => by simp at e
  | _, _, _, [], .cons _ _, .cons _ _, e => by simp at e
  | _, _, _, p :: ps, .cons h t, .cons r rs, e => by
    rw [List.map_cons, List.map_cons] at e
    injection e with e1 e2
    exact .cons (Dp.reads I _ _ _ ((h.mono sub).dp e1) r) (each_of_at I sub t rs e2)
/-- a value that stands for a datum -/
def VAt (K : PySem.W.Frag) (S : Hp) (u : Value) (d : D) : Prop := ∃ v, RelV v u ∧ At K S v d
theorem each_at {K : PySem.W.Frag} {S : Hp} : ∀ {vs : List V} {ds : List D} {us : List Value}, AtL K S vs ds → Vals vs us → EachIs (VAt K S) us ds
  | _, _, _, .nil, .nil => .nil
  | _, _, _, .cons h t, .cons r rs => .cons ⟨_, r, h⟩ (each_at t rs)
theorem at_each {K : PySem.W.Frag} {S : Hp} {us : List Value} {ds : List D} (h : EachIs (VAt K S) us ds) : ∃ vs, Vals vs us ∧ AtL K S vs ds := by
  induction h with
  | nil => exact ⟨[], .nil, .nil⟩
  | cons q _ ih =>
    obtain ⟨v, r, a⟩ := q
    obtain ⟨vs, rs, as⟩ := ih
    exact ⟨v :: vs, .cons r rs, .cons a as⟩

/-- the key's call -/
theorem run_key {P : Value → Shared → Prop} {k : Nat} {fa : Addr} {fd : FuncData} {ps : List Str} {m : List D → Out (D × D)} (F : FnOk X.prog X.w X.K X.mg X.base (L2.CX X.prog X.w) k fa fd ps (spec X.K X.mg 1 none false m)) (hr : Room (k + 2) X.A) (hb : Binds X.K fd ps [])
    (I : Inv X pins σ H s) (sub : Same S H) {x : V} {u : Value} {d kd o : D} (hat : At X.K S x d) (rx : RelV x u) (hm : m [d] = .ok (kd, o))
    (fin : ∀ v S' H' u' s', Ext (fun _ => False) S H S' H' → At X.K S' v kd → RelV v u' → Inv X pins σ H' s' → Un (frs X.stack) [] H H' s.heap s'.heap → P u' s') : wpAny (model X.prog X.w) X.A.in1.in1 (call (.ref fa) [u]) P E s := by
  have r2 : Vals [x] [u] := .cons rx .nil
  have sp : spec X.K X.mg 1 none false m [x] H (fun v H' => ∃ S', Ext (fun _ => False) S H S' H' ∧ At X.K S' v kd) (fun _ _ _ => False) := by
    refine ⟨rfl, S, [d], rel_args (.cons hat .nil) sub, ?_⟩
    rw [hm]
    exact fun v S' H' x q _ => ⟨S', x.weak fun _ z => own_nil z, q⟩
  refine wpAny_call (codeAny_mono (F.run X.A.in1.in1 X.stack s H ⟨[u], []⟩ ([u] ++ []) [x] _ _ hr.in1.in1 I.env0.in1.in1 (hb s [u] I.kIn (by rw [← F.len _ _ _ _ sp]; rfl)) r2 sp) fun r s' hq => ?_)
  cases r with
  | error e =>
    obtain ⟨_, _, _, _, _, _, _, _, _, _, _, _, z⟩ := hq
    exact z.elim
  | ok fl =>
    cases fl with
    | ret u' =>
      obtain ⟨v, H', os, bare, un, hok, r, S', x, q⟩ := hq
      exact fin v S' H' u' s' x q r (I.call' os un hok bare fun b z => absurd z (by simp)) un
    | _ => exact hq.elim
end

/-! ### the keys of items -/
def keysOf (m : List D → Out (D × D)) : List D → Option (List (D × PyData))
  | [] => some []
  | d :: ds => match m [d] with
    | .ok (kd, _) => (match kd.py, keysOf m ds with
      | some p, some ps => some ((kd, p) :: ps)
      | _, _ => none)
    | _ => none
def sortableB (ps : List PyData) : Bool := ps.all (fun p => match p with | .tuple (_ :: _) => true | _ => false) || ps.all fun p => match p with | .none => false | .tuple _ => false | _ => true
def keysOk (ps : List PyData) : Bool := ps.all (fun p => ps.all fun q => alike p q) && sortableB ps && ps.all fun p => decide (p.depth ≤ 40)
theorem keysOk_iff {ps : List PyData} (h : keysOk ps = true) : AllAlike ps ∧ Sortable ps ∧ ∀ p ∈ ps, p.depth ≤ 40 := by
  unfold keysOk at h
  rw [Bool.and_eq_true, Bool.and_eq_true] at h
  obtain ⟨⟨h1, h2⟩, h3⟩ := h
  refine ⟨fun d hd d' hd' => List.all_eq_true.mp (List.all_eq_true.mp h1 d hd) d' hd', ?_, fun p hp => of_decide_eq_true (List.all_eq_true.mp h3 p hp)⟩
  unfold sortableB at h2
  rcases Bool.or_eq_true_iff.mp h2 with h | h
  · refine .inl fun d hd => ?_
    have q := List.all_eq_true.mp h d hd
    split at q
    · exact ⟨_, _, rfl⟩
    · cases q
  · refine .inr fun d hd => ?_
    have q := List.all_eq_true.mp h d hd
    split at q
    · cases q
    · cases q
    · rename_i h1 h2
      exact ⟨h1, fun xs => h2 xs⟩
/-- a datum's key -/
def keyFn (m : List D → Out (D × D)) (d : D) : PyData := match m [d] with
  | .ok (kd, _) => (match kd.py with | some p => p | none => .none)
  | _ => .none
theorem keysOf_some {m : List D → Out (D × D)} : ∀ {ds : List D} {ks : List (D × PyData)}, keysOf m ds = some ks → ks.length = ds.length ∧ ks.map (·.2) = ds.map (keyFn m) ∧ ∀ (j : Nat) (d : D), ds[j]? = some d → ∃ kd o p, m [d] = .ok (kd, o) ∧ kd.py = some p ∧ ks[j]? = some (kd, p)
  | [], _, e => by cases e; exact ⟨rfl, rfl, fun j d h => by simp at h⟩
  | d :: ds, ks, e => by
    unfold keysOf at e
    cases hm : m [d] with
    | ok z =>
      obtain ⟨kd, o⟩ := z
      rw [hm] at e
      dsimp only at e
      cases hp : kd.py with
      | none => rw [hp] at e; cases e
      | some p =>
        cases hk : keysOf m ds with
        | none => rw [hp, hk] at e; cases e
        | some ps =>
          rw [hp, hk] at e
          cases e
          obtain ⟨h1, h2, h3⟩ := keysOf_some hk
          refine ⟨by rw [List.length_cons, List.length_cons, h1], ?_, fun j d' hd => ?_⟩
          · rw [List.map_cons, List.map_cons, h2]
            congr 1
            unfold keyFn
            rw [hm]
            dsimp only
            rw [hp]
          · cases j with
            | zero => cases (show some d = some d' by simpa using hd); exact ⟨kd, o, p, hm, hp, rfl⟩
            | succ j => simpa using h3 j d' (by simpa using hd)
    | exc c fs => rw [hm] at e; cases e
    | stuck => rw [hm] at e; cases e
/-- sorted by a key -/
def sortK (m : List D → Out (D × D)) (ds : List D) : Option (List D) := match keysOf m ds with
  | some ks => if keysOk (ks.map (·.2)) = true then some (ds.mergeSort (dataLe false (keyFn m))) else none
  | none => none

section
variable {X : Cx} {pins : List (Addr × Obj)} {σ : L2.St} {S H : Hp} {s : Shared} {E : Value → Shared → Prop} {vsV : List V} {vs : List Value} {ds : List D} {ks : List (D × PyData)} {a kS : Addr} {e1 : Nat}
  {k : Nat} {fa : Addr} {fd : FuncData} {ps : List Str} {m : List D → Out (D × D)}
/-- where the sort leaves off -/
def SortEnd (X : Cx) (pins : List (Addr × Obj)) (σ : L2.St) (S H : Hp) (a : Addr) (out : List D) (s' : Shared) : Prop := ∃ S' H' ys, Inv X pins σ (upd H' a (.lst ys)) s' ∧ Ext (fun _ => False) S H S' H' ∧ H' a = none ∧ AtL X.K S' ys out
theorem loop_keys (F : FnOk X.prog X.w X.K X.mg X.base (L2.CX X.prog X.w) k fa fd ps (spec X.K X.mg 1 none false m)) (hr : Room (k + 2) X.A) (hb : Binds X.K fd ps []) (hks : keysOf m ds = some ks) (hok : keysOk (ks.map (·.2)) = true)
    (I : Inv X pins σ H s) (sub : Same S H) (hat : AtL X.K S vsV ds) (rv : Vals vsV vs) (hz : ds.length ≤ sizeLine) (fk : FpOk X pins H kS) (fp : FpOk X pins H a) (hka : kS ≠ a)
    (nk : s.heap.get? kS = some (seqObj "list" #[] 0)) (na : s.heap.get? a = some (seqObj "list" #[] e1)) :
    wpAny (model X.prog X.w) X.A.in1.in1 (ksk_rest a (.ref fa) false vs.toArray e1 (.ref kS)) (fun fn s' => fn = .done (.ret .none) ∧ SortEnd X pins σ S H a (ds.mergeSort (dataLe false (keyFn m))) s') E s := by
  obtain ⟨lk, mk, gk⟩ := keysOf_some hks
  obtain ⟨hal, hso, hdp⟩ := keysOk_iff hok
  have lv : vs.length = ds.length := by rw [← rv.length, hat.length]
  have upF : ∀ {b : Addr} {H' : Hp}, FpOk X pins H b → H' b = none → FpOk X pins H' b := fun {b H'} f n => ⟨n, f.2⟩
  unfold ksk_rest
  refine wpAny_bind (wpAny_rule ?_)
  first
    | rw [List.forIn_toArray]
    | rw [← Array.forIn_toList]
  refine wpAny_bind (PyProof.Rows.ksk_fold (fun j s' => ∃ S' H' kA c kV, Inv X pins σ H' s' ∧ Ext (fun _ => False) S H S' H' ∧ s'.heap.get? kS = some (seqObj "list" kA c) ∧ s'.heap.get? a = some (seqObj "list" #[] e1) ∧ H' kS = none ∧ H' a = none ∧ Vals kV kA.toList ∧ AtL X.K S' kV ((ks.take j).map (·.1))) vs 0 s
    ⟨S, H, #[], 0, [], I, Ext.refl sub, nk, na, fk.1, fp.1, .nil, by rw [List.take_zero]; exact .nil⟩ ?turn ?last)
  case turn =>
    rintro j u s' hu ⟨S', H', kA, c, kV, I', x', nk', na', nkH, naH, rk, ak⟩
    rw [Nat.zero_add] at ak ⊢
    have hj : j < ds.length := by
      have q := (List.getElem?_eq_some_iff.mp hu).1
      omega
    obtain ⟨kd, o, p, hm, hp, hkj⟩ := gk j _ (List.getElem?_eq_getElem hj)
    obtain ⟨v, ev, hv⟩ := hat.get (List.getElem?_eq_getElem hj)
    obtain ⟨u', eu', ru⟩ := rv.get ev
    rw [hu] at eu'
    cases eu'
    have hsz : kA.size ≤ ds.length := by
      have q1 : kV.length = kA.size := (L2.Vals.length rk).trans Array.length_toList
      have q2 : kV.length = min j ks.length := (AtL.length ak).trans (by rw [List.length_map, List.length_take])
      have q3 := Nat.min_le_right j ks.length
      omega
    refine wpAny_bind (wpAny_attempt (wpAny_mono (run_key (E := fun _ _ => False) F hr hb I' x'.sh (hv.mono x'.s) ru hm fun v2 S2 H2 u2 s2 x2 q2 r2 I2 un => (show ∃ S2 H2 v2, Inv X pins σ H2 s2 ∧ Ext (fun _ => False) S' H' S2 H2 ∧ At X.K S2 v2 kd ∧ RelV v2 u2 ∧ Un (frs X.stack) [] H' H2 s'.heap s2.heap from ⟨S2, H2, v2, I2, x2, q2, r2, un⟩)) (fun u2 s2 q => ?_) fun _ _ z => z.elim))
    obtain ⟨S2, H2, v2, I2, x2, q2, r2, un⟩ := q
    dsimp only
    have fr : ∀ {b : Addr}, FpOk X pins H b → b ∉ frs X.stack := fun {b} f z => by
      rcases List.mem_cons.mp (I2.stkSub b z) with z | z
      · exact f.2.1 z
      · exact f.2.2.1 z
    have nk2 := un.keep kS _ nk' nkH (fr fk) (by simp)
    have na2 := un.keep a _ na' naH (fr fp) (by simp)
    have nkH2 := un.free kS _ nk' nkH (by simp)
    have naH2 := un.free a _ na' naH (by simp)
    obtain ⟨c3, hc3⟩ : ∃ c3, (s2.heap.update kS (Obj.mapSeq (·.push u2))).get? kS = some (seqObj "list" (kA.push u2) c3) := ⟨_, get?_update_seq nk2 (·.push u2)⟩
    have sb := Heap.SameBut.update s2.heap kS (Obj.mapSeq (·.push u2))
    refine wpAny_bind (listUpdate_at nk2 rfl ?_ (Nat.le_trans hsz hz) (by rw [Array.size_push]; omega))
    have fk2 := upF fk nkH2
    refine wpAny_pure ⟨rfl, S2, H2, kA.push u2, c3, kV ++ [v2], I2.turned (t' := s2.toks) (fun b ob hb e => (sb.2 b hb).trans e) fk2.1 fk2.2.1 fk2.2.2.2.1 fk2.2.2.2.2.1 fk2.2.2.2.2.2, x'.trans x2 fun c q => .inl q, hc3, (sb.2 a (Ne.symm hka)).trans na2, nkH2, naH2, ?_, ?_⟩
    · rw [Array.toList_push]; exact Vals.append rk (.cons r2 .nil)
    · rw [List.take_add_one, hkj]
      show AtL X.K S2 (kV ++ [v2]) ((ks.take j ++ [(kd, p)]).map (·.1))
      rw [List.map_append]
      exact (ak.mono x2.s).append (.cons q2 .nil)
  case last =>
    rintro s' ⟨S', H', kA, c, kV, I', x', nk', na', nkH, naH, rk, ak⟩
    rw [Nat.zero_add, lv, ← lk, List.take_length] at ak
    have each : EachIs (fun v p => ∃ as, Reads s'.heap v p as) kA.toList (ds.map (keyFn m)) := by
      rw [← mk]
      refine each_of_at I' x'.sh ak rk ?_
      refine List.ext_getElem? fun j => ?_
      simp only [List.getElem?_map]
      cases hk : ks[j]? with
      | none => rfl
      | some y =>
        have hjl : j < ds.length := by
          have := (List.getElem?_eq_some_iff.mp hk).1
          omega
        obtain ⟨kd, o, p, _, hp, hkj⟩ := gk j _ (List.getElem?_eq_getElem hjl)
        rw [hk] at hkj
        cases hkj
        show some kd.py = some (some p)
        rw [hp]
    have lA : kA.size = vs.length := by
      have q := each.length
      rw [Array.length_toList, List.length_map] at q
      omega
    rw [mk] at hal hso hdp
    refine wpAny_bind (listItems_at nk' rfl ?_)
    have hu := hr.un
    refine PySem.W.keyH_end (κ := PySem.W.dataKind s'.heap (ds.map (keyFn m))) (h₁ := PySem.W.hideAll s'.heap [kS]) (fun b o _ e => PySem.W.of_hideAll [kS] e) (PySem.W.hideAll_none [kS] List.mem_cons_self) nk' na' hka
      (PySem.W.SortsAt.data (s := s') each hal hso fun d hd => by have := hdp d hd; show X.A.units + 1 + 1 + d.depth < cLine; omega) lA (by rw [lv]; exact hz) fun h' tk c' kp na3 => ⟨rfl, ?_⟩
    have outE : EachIs (VAt X.K S') (PySem.W.sortVals (PySem.W.dataKind s'.heap (ds.map (keyFn m))) false kA.toList vs) (ds.mergeSort (dataLe false (keyFn m))) :=
      PySem.W.keyedOut_each (keyFn m) ⟨s'.heap, kA.toList, hal, rfl, each⟩ (each_at (hat.mono x'.s) rv)
    obtain ⟨ys, ry, ay⟩ := at_each outE
    have I4 : Inv X pins σ H' { s' with heap := h', toks := tk } := I'.turnedL (ch := [a, kS]) (t' := tk) (fun b ob hb e => kp b ob (fun z => hb (by simp [z])) (PySem.W.hideAll_get [kS] e fun z => hb (by simp at z; simp [z]))) fun b hb => by
      rcases List.mem_cons.mp hb with z | z
      · rw [z]; exact upF fp naH
      · rw [List.mem_singleton.mp z]; exact upF fk nkH
    have lz : ys.length ≤ sizeLine := by rw [ay.length, List.length_mergeSort]; exact hz
    have I5 : Inv X pins σ (upd H' a (.lst ys)) { s' with heap := h', toks := tk } := Inv.take (s := { s' with heap := h', toks := tk }) (h' := h') (t' := tk) I4 (fun b ob _ e => e) (upF fp naH) ⟨lz, _, c', ry, na3⟩
    exact ⟨S', H', ys, I5, x', naH, ay⟩
end
end SW

set_option maxRecDepth 100000
/-! SW19: sorted as a call; what is collected of a list, a tuple, a dict. -/
namespace SW
open PySem PySem.Spec PyProof.Rows L2
open PySem.W (EachIs dataLe AllAlike Sortable alike)

/-- the items of what x is -/
def ColAt (K : PySem.W.Frag) (H : Hp) (x : V) (vs : List V) : Prop :=
  (∃ a, x = .ref a ∧ SqL K H a vs) ∨ (∃ a, x = .ref a ∧ SqT K H a vs) ∨ ∃ a dx, x = .ref a ∧ DGood K H a dx ∧ vs = dx.xs.map fun p => V.ref p.2.1
theorem col_at {K : PySem.W.Frag} {S H : Hp} {v : V} {d : D} {ds : List D} (h : At K S v d) (sub : Same S H) (e : itemsA d = some ds) : ∃ vs, ColAt K H v vs ∧ AtL K S vs ds ∧ ds.length ≤ sizeLine := by
  cases h with
  | lst h z r => cases e; exact ⟨_, .inl ⟨_, rfl, .of (sub _ _ h)⟩, r, z⟩
  | tup h z r => cases e; exact ⟨_, .inr (.inl ⟨_, rfl, sqT_mono sub h⟩), r, z⟩
  | scr h z => cases e; exact ⟨_, .inl ⟨_, rfl, sub.seq h⟩, AtL.ints _, by rw [List.length_map]; exact z⟩
  | dct h t z r => cases e; exact ⟨_, .inr (.inr ⟨_, _, rfl, good_of (sub _ _ h) t z r sub, rfl⟩), (dct_split t r).1, by rw [List.length_map]; exact z⟩
  | _ => cases e
section
variable {prog : Program} {w : World} {A : Around} {E : Value → Shared → Prop} {s : Shared}
theorem col_tuple {l : Addr} {vs : List Value} {Q : List Value → Shared → Prop} (hl : IsTup s.heap l vs.toArray) (hsz : vs.length ≤ sizeLine)
    (h : ∀ h', (∀ b o, s.heap.get? b = some o → h'.get? b = some o) → Q vs { s with heap := h' }) : wpAny (model prog w) A (collect (.ref l)) Q E s := by
  obtain ⟨o, ho, hc, n, hd⟩ := id hl
  unfold collect
  refine wpAny_bind (wpAny_runValue (codeAny_builtin entry_proto_collect' ?_))
  show wpAny _ _ (do again (.builtin "list.__iadd__" ⟨[← newList [], .ref l], []⟩)) _ _ s
  refine wpAny_bind (wpAny_newList (wpAny_pure ⟨Code.quiet_builtin _ (by decide +kernel), codeAny_builtin entry_list_iadd' ?_⟩))
  have up : ∀ b q, s.heap.get? b = some q → (s.heap.push (seqObj "list" #[] 0)).get? b = some q := fun b q e => Heap.get?_push_of_some _ e
  have nw : (s.heap.push (seqObj "list" #[] 0)).get? s.heap.objs.size = some (seqObj "list" #[] 0) := Heap.get?_push_size _ rfl
  show wpAny _ _ (Builtin.List.listExtendWith (.ref s.heap.objs.size) (.ref l) (.ref s.heap.objs.size)) _ _ { s with heap := s.heap.push (seqObj "list" #[] 0) }
  unfold Builtin.List.listExtendWith
  refine wpAny_bind (wpAny_typeOf (T := "tuple") ⟨o, up _ _ ho, hc⟩ ?_)
  rw [if_pos (by rw [show (Value.type "tuple" == Value.type "tuple") = true from by decide, Bool.or_true])]
  refine wpAny_bind (listItems_at (up _ _ ho) hd ?_)
  refine wpAny_bind (listItems_at nw rfl ?_)
  rw [if_neg (by simp)]
  refine wpAny_bind (listUpdate_at nw rfl ?_ (Nat.zero_le _) (by show (#[] ++ vs.toArray).size ≤ sizeLine + 1; simp only [Array.size_append, List.size_toArray, List.length_nil]; omega))
  refine wpAny_pure ?_
  show wpAny (model prog w) A (do
      let o ← load s.heap.objs.size
      match o.data with
      | .seq xs _ => pure xs.toList
      | _ => unsupported "internal:collect") Q E { s with heap := (s.heap.push (seqObj "list" #[] 0)).update s.heap.objs.size (Obj.mapSeq (· ++ vs.toArray)) }
  refine wpAny_bind (wpAny_load (get?_update_seq nw _) ?_)
  show wpAny _ _ (pure ((#[] : Array Value) ++ vs.toArray).toList) Q E _
  have e : ((#[] : Array Value) ++ vs.toArray).toList = vs := by simp
  rw [e]
  refine wpAny_pure (h _ fun b q eb => ?_)
  exact ((Heap.SameBut.update ..).2 b (Nat.ne_of_lt (Heap.lt_size eb))).trans (up b q eb)
end
section
variable {X : Cx} {pins : List (Addr × Obj)} {σ : L2.St} {S H : Hp} {s : Shared} {E : Value → Shared → Prop}
theorem col_run {A : Around} (I : Inv X pins σ H s) (hh : A.handled = none) {x : V} {vs : List V} {u : Value} (c : ColAt X.K H x vs) (rx : RelV x u) :
    wpAny (model X.prog X.w) A (collect u) (fun us s1 => Inv X pins σ H s1 ∧ Vals vs us ∧ us.length ≤ sizeLine) E s := by
  rcases c with ⟨a, rfl, h⟩ | ⟨a, rfl, h⟩ | ⟨a, dx, rfl, g, rfl⟩
  · obtain rfl : u = Value.ref a := rx
    obtain ⟨its, rv, p, z⟩ := I.list h
    refine collect_list p.isList ⟨I.kept (t' := s.toks) fun b q e => ?_, rv, by rw [← L2.Vals.length rv]; exact z⟩ (by rw [← L2.Vals.length rv]; exact z)
    exact ((Heap.SameBut.update ..).2 b (Nat.ne_of_lt (Heap.lt_size e))).trans (Heap.get?_push_of_some _ e)
  · obtain rfl : u = Value.ref a := rx
    obtain ⟨its, rv, p, z⟩ := I.tuple h
    have z' : its.length ≤ sizeLine := by rw [← L2.Vals.length rv]; exact z
    exact col_tuple p z' fun h' k => ⟨I.kept (t' := s.toks) k, rv, z'⟩
  · obtain rfl : u = Value.ref a := rx
    obtain ⟨ys, _, _, _, ho⟩ := g.dict I
    obtain ⟨es, ep, hdt, en⟩ := g.ens
    have hsz : es.size = dx.xs.length := by rw [← Paired.length en, Array.length_toList]
    have z : es.size ≤ sizeLine := by rw [hsz]; exact g.len
    refine PySem.W.kdu_collect (PySem.KdlSrc.rawDict (es := es) (ep := ep) g.sys) hh ⟨dx.o, ho, g.ex, hdt⟩ z fun h' tk acc k hacc => ⟨I.kept k, ?_, ?_⟩
    · have pr : ∀ {l : List Value} {xs : XL}, l.length = xs.length → (∀ (j : Nat) (v : Value), l[j]? = some v → ∃ p : NestedKey × Addr × V, xs[j]? = some p ∧ v = .ref p.2.1) → Vals (xs.map fun p => V.ref p.2.1) l := by
        intro l
        induction l with
        | nil => intro xs e _; cases xs with | nil => exact .nil | cons _ _ => simp at e
        | cons v l ih =>
          intro xs e h
          cases xs with
          | nil => simp at e
          | cons p xs =>
            obtain ⟨p', e1, e2⟩ := h 0 v rfl
            cases (show some p = some p' by simpa using e1)
            exact .cons e2 (ih (by simpa using e) fun j v' hv => by simpa using h (j + 1) v' (by simpa using hv))
      refine pr (by rw [Array.length_toList, hacc.1, hsz]) fun j v hv => ?_
      have hv' : acc[j]? = some v := by rw [← Array.getElem?_toList]; exact hv
      obtain ⟨hi, e⟩ := hacc.2 j v hv'
      obtain ⟨en', hen, hk, _⟩ := en.get (List.getElem?_eq_getElem (by omega : j < dx.xs.length))
      rw [Array.getElem?_toList, Array.getElem?_eq_getElem hi] at hen
      cases hen
      exact ⟨_, List.getElem?_eq_getElem (by omega), by rw [e, hk]⟩
    · rw [Array.length_toList, hacc.1]; exact z
end

/-- sorted(e, key=f), sorted(e) -/
def rSortK (X : Cx) (fa : Addr) (m : List D → Out (D × D)) : List V → List V → Hp → VK → Prop := fun vs zs H Q => ∃ x S d ds out, vs = [x] ∧ zs = [.ref fa] ∧ Same S H ∧ At X.K S x d ∧ itemsA d = some ds ∧ sortK m ds = some out ∧
  ∀ S' H' p ys, Ext (fun _ => False) S H S' H' → H' p = none → AtL X.K S' ys out → Q (.ref p) (upd H' p (.lst ys))
section
variable {X : Cx} {k : Nat} {fa : Addr} {fd : FuncData} {ps : List Str} {m : List D → Out (D × D)}
theorem sortK_some {ds out : List D} (h : sortK m ds = some out) : ∃ ks, keysOf m ds = some ks ∧ keysOk (ks.map (·.2)) = true ∧ out = ds.mergeSort (dataLe false (keyFn m)) := by
  unfold sortK at h
  split at h
  · rename_i ks hk
    split at h
    · rename_i ho
      cases h
      exact ⟨ks, hk, ho, rfl⟩
    · cases h
  · cases h
theorem call_sortK (hcalm : X.calm = true) (F : FnOk X.prog X.w X.K X.mg X.base (L2.CX X.prog X.w) k fa fd ps (spec X.K X.mg 1 none false m)) (hr : Room (k + 2) X.A) (hb : Binds X.K fd ps []) : CallRK X (.builtin "sorted") [Str.ofString "key"] (rSortK X fa m) := by
  intro pins s σ H xs zs us ws Q I r rz h
  obtain ⟨x, S, d, ds, out, rfl, rfl, sub, hat, hit, hso, q⟩ := h
  obtain ⟨u, rfl, rx⟩ := vals1 r
  obtain ⟨w1, rfl, rw1⟩ := vals1 rz
  obtain rfl : w1 = Value.ref fa := rw1
  obtain ⟨ks, hks, hok, rfl⟩ := sortK_some hso
  obtain ⟨vs, hc, hvs, hz⟩ := col_at hat sub hit
  have lvs := hvs.length
  refine call_function_entry_kw kind_sorted plain_sorted entry_sorted (PyProof.Rows.ksk_s1 _ _) ?_
  unfold Builtin.«sorted»
  refine wpAny_bind (m := checkCount "sorted" 1 1 _) (wpAny_pure (?_))
  refine wpAny_bind (wpAny_mono (col_run (A := X.A.in1) (E := X.xe) I hr.hd hc rx) (fun its s1 q1 => ?_) fun _ _ z => z)
  obtain ⟨I1, rv, zl⟩ := q1
  refine wpAny_bind (wpAny_newList ?_ zl)
  have nw : (s1.heap.push (seqObj "list" its.toArray 0)).get? s1.heap.objs.size = some (seqObj "list" its.toArray 0) := Heap.get?_push_size _ rfl
  have hn := I1.hok.fresh (Nat.le_refl s1.heap.objs.size)
  have I2 : Inv X pins σ H { s1 with heap := s1.heap.push (seqObj "list" its.toArray 0) } := I1.kept (t' := s1.toks) fun b o e => Heap.get?_push_of_some _ e
  have fp := I1.fpOk (Nat.le_refl s1.heap.objs.size) hn
  refine wpAny_bind (wpAny_holding (wpAny_call_entry_kw slot_list_sort ⟨_, nw, rfl⟩ entry_list_sort ?sort (PyProof.Rows.ksk_l1 _ _)))
  case sort =>
    show wpAny (model X.prog X.w) X.A.in1.in1 (Builtin.«list.sort» ⟨[.ref s1.heap.objs.size], [(Str.ofString "key", .ref fa)]⟩) _ _ { s1 with heap := s1.heap.push (seqObj "list" its.toArray 0) }
    rw [PyProof.Rows.ksk_t1]
    unfold PyProof.Rows.ksk_tree
    refine wpAny_bind (listItems_at nw rfl ?_)
    obtain ⟨e1, ne⟩ : ∃ e1, ((s1.heap.push (seqObj "list" its.toArray 0)).update s1.heap.objs.size (Obj.mapSeq fun _ => (#[] : Array Value))).get? s1.heap.objs.size = some (seqObj "list" #[] e1) := ⟨_, get?_update_seq nw fun _ => #[]⟩
    refine wpAny_bind (listUpdate_at nw rfl ?_ (by rw [List.size_toArray]; exact zl) (Nat.zero_le _))
    have sb := Heap.SameBut.update (s1.heap.push (seqObj "list" its.toArray 0)) s1.heap.objs.size (Obj.mapSeq fun _ => (#[] : Array Value))
    have I3 : Inv X pins σ H { s1 with heap := (s1.heap.push (seqObj "list" its.toArray 0)).update s1.heap.objs.size (Obj.mapSeq fun _ => (#[] : Array Value)) } :=
      I2.turned (t' := s1.toks) (fun b ob hb e => (sb.2 b hb).trans e) fp.1 fp.2.1 fp.2.2.2.1 fp.2.2.2.2.1 fp.2.2.2.2.2
    refine wpAny_bind (seqEpoch_at ne rfl ?_)
    refine wpAny_bind (wpAny_newTuple ?_ zl)
    refine wpAny_bind (wpAny_newList ?_ (Nat.zero_le _))
    refine wpAny_holding ?_
    generalize hg : (s1.heap.push (seqObj "list" its.toArray 0)).update s1.heap.objs.size (Obj.mapSeq fun _ => (#[] : Array Value)) = g at ne I3
    have hgs : g.objs.size = s1.heap.objs.size + 1 := by rw [← hg, Heap.size_update, Heap.size_push]
    have I4 : Inv X pins σ H { s1 with heap := (g.push (seqObj "tuple" its.toArray 0)).push (seqObj "list" #[] 0) } :=
      I3.kept (t' := s1.toks) fun b o e => Heap.get?_push_of_some _ (Heap.get?_push_of_some _ e)
    have htl : s1.heap.objs.size < (g.push (seqObj "tuple" its.toArray 0)).objs.size := by rw [Heap.size_push, hgs]; omega
    have hts : (g.push (seqObj "tuple" its.toArray 0)).objs.size = s1.heap.objs.size + 2 := by rw [Heap.size_push, hgs]
    have nk : ((g.push (seqObj "tuple" its.toArray 0)).push (seqObj "list" #[] 0)).get? (g.push (seqObj "tuple" its.toArray 0)).objs.size = some (seqObj "list" #[] 0) := Heap.get?_push_size _ rfl
    have fk : FpOk X pins H (g.push (seqObj "tuple" its.toArray 0)).objs.size := I1.fpOk (Nat.le_of_lt htl) (I1.hok.fresh (Nat.le_of_lt htl))
    refine wpAny_mono (loop_keys (E := X.xe) F hr hb hks hok I4 sub hvs rv hz fk fp (Nat.ne_of_gt htl) nk (Heap.get?_push_of_some _ (Heap.get?_push_of_some _ ne))) (fun fn s' hf => ?_) fun _ _ z => z
    obtain ⟨rfl, S', H', ys, I5, x5, n5, a5⟩ := hf
    exact ⟨_, rfl, wpAny_pure ⟨_, rfl, .ref s1.heap.objs.size, _, I5, rfl, q S' H' _ ys x5 n5 a5⟩⟩
end
section
variable {X : Cx} {W : WX} {os os1 : Os} {e : Expr} {f : Rho → Out (D × Rho)} {pos p pk kp : Pos} {k : Nat} {fa : Addr} {fd : FuncData} {ps : List Str} {m : List D → Out (D × D)}
def eSortK (m : List D → Out (D × D)) (f : Rho → Out (D × Rho)) : Rho → Out (D × Rho) := fun ρ => (f ρ).bind fun p => (Out.of ((itemsA p.1).bind (sortK m))).bind fun c => .ok (.lst c, p.2)
theorem ve_sortK {y : Str} (F : FnOk X.prog X.w X.K X.mg X.base (L2.CX X.prog X.w) k fa fd ps (spec X.K X.mg 1 none false m)) (hr : Room (k + 2) X.A) (hmf : X.mg y = some (.ref fa)) (hb : Binds X.K fd ps []) (ha : VE X W os e f os1 false) (hm : X.mg "sorted" = none) (hle : Le os1 os := by rfl) (hc : X.calm = true := by rfl)
    (hg : Gl X "sorted" := by rfl) (hgy : Gl X y := by rfl) (hdb : (y == ("__debug__" : Str)) = false := by decide) (he1 : starEach [e] X.env = (false, eval e X.env) :: starEach [] X.env := by rfl)
    (he : backTo pos (starEach [e] X.env) = (false, eval e X.env) :: backTo pos (starEach [] X.env) := by rfl) (hpl : (backTo pos (starEach [e] X.env)).any (·.1) = false := by rfl)
    (hall : (backToKw pos (keywordEach [⟨some "key", .Name y pk, kp⟩] X.env)).all (·.1.isSome) = true := by rfl) (hnone : (backToKw pos (keywordEach [⟨some "key", .Name y pk, kp⟩] X.env)).any (·.1.isNone) = false := by rfl) (hks : (backToKw pos (keywordEach [⟨some "key", .Name y pk, kp⟩] X.env)).filterMap (·.1) = [Str.ofString "key"] := by rfl) :
    VE X W os (.Call (.Name "sorted" p) [e] [⟨some "key", .Name y pk, kp⟩] pos) (eSortK m f) os1 true := by
  obtain ⟨ta, pa, ka⟩ := ha
  refine ⟨_, pe_callBK (call_sortK hc F hr hb) hg hm (by decide +kernel) (pa_cons pa pa_nil he1) (pk_cons (pe_glob (v := .ref fa) hgy hmf rfl hdb) pk_nil) (by decide) (by decide) he hpl hall hnone hks, fun S σ H ρ Q rel P => ?_⟩
  refine ka S σ H ρ _ rel (Post.seq P (fun z => z) (fun c fs p => p) fun d ρ1 v S1 H1 st1 rel1 q1 P1 => ?_)
  have P1 := P1.step RV.ok st1
  dsimp only at P1
  cases hi : itemsA d with
  | none => rw [hi] at P1; exact P1.elim
  | some ds =>
    rw [hi] at P1
    cases hs : sortK m ds with
    | none =>
      have P1 : Post X W S1 H1 os1 σ os1 (RV X.K true) Q ((Out.of (sortK m ds)).bind fun c => .ok (.lst c, ρ1)) := P1
      rw [hs] at P1
      exact P1.elim
    | some out =>
      have P1 : Post X W S1 H1 os1 σ os1 (RV X.K true) Q ((Out.of (sortK m ds)).bind fun c => .ok (.lst c, ρ1)) := P1
      rw [hs] at P1
      refine ⟨v, S1, d, ds, out, rfl, rfl, rel1.sub, q1, hi, hs, fun S' H' l ys x nl hys => ?_⟩
      have xx := Ext.newO (O := fun _ => False) (o := .lst ys) x.sh nl
      obtain ⟨ks, _, _, rfl⟩ := sortK_some hs
      have hz : (ds.mergeSort (dataLe false (keyFn m))).length ≤ sizeLine := by
        rw [List.length_mergeSort]
        obtain ⟨_, _, _, hz⟩ := col_at (show At X.K S1 v d from q1) rel1.sub hi
        exact hz
      have x2 := x.trans xx fun c q => .inl q
      exact P1 (.ref l) S' (upd H' l (.lst ys)) (Stp.of_ext x2) (rel1.ext0 x2) ⟨.mkL (x.sh.free nl) upd_same hz hys, fun a e => by cases e; exact x.there _ nl⟩
end
end SW

set_option maxRecDepth 100000
/-! SW20: max(.., default=..), sorted(..), dict(..) of pairs. -/
namespace SW
open PySem PySem.Spec PyProof.Rows L2
open PySem.W (EachIs dataLe AllAlike Sortable alike)

/-! ### max(xs, default=z), xs a list or a tuple of whole numbers -/
def intsIn : D → Option (List Int)
  | .lst ds => intsOf ds
  | .tup ds => intsOf ds
  | _ => none
def foldM (mx : Bool) (n : Int) (ns : List Int) : Int := ns.foldl (fun a b => if mx = true then max a b else min a b) n
def mmDef (mx : Bool) (d z : D) : Option D := match intsIn d with
  | some [] => some z
  | some (n :: ns) => some (.int (foldM mx n ns))
  | none => none
section
variable {X : Cx}
end
section
variable {X : Cx} {W : WX} {os os1 os2 : Os} {e e2 : Expr} {f f2 : Rho → Out (D × Rho)} {pos p kp : Pos}
def eMM (mx : Bool) (f f2 : Rho → Out (D × Rho)) : Rho → Out (D × Rho) := fun ρ => (f ρ).bind fun p => (f2 p.2).bind fun q => (Out.of (mmDef mx p.1 q.1)).bind fun c => .ok (c, q.2)
end
end SW

set_option maxRecDepth 100000
/-! SW21: equations for dicts in mirrors; words and fractions as terms of sums. -/
namespace SW
open PySem PySem.Spec PyProof.Rows L2
theorem ixA_lst {l : List D} {k : D} : ixA (.lst l) k = ixD (.lst l) k := rfl
theorem ixA_tup {l : List D} {k : D} : ixA (.tup l) k = ixD (.tup l) k := rfl
theorem ixA_scr {l : List Int} {k : D} : ixA (.scr l) k = ixD (.scr l) k := rfl
/-! words as keys -/
def wk (w : List Int) : NestedKey := .tup (w.map .num)
theorem keyDs_ints : ∀ w : List Int, keyDs (w.map D.int) = some (w.map NestedKey.num)
  | [] => rfl
  | i :: w => by
    show (match keyD (.int i), keyDs (w.map D.int) with
      | some k, some ks => some (k :: ks)
      | _, _ => none) = _
    rw [keyDs_ints w]
    rfl
theorem depth_nums : ∀ w : List Int, NestedKey.depthAll (w.map NestedKey.num) = 0
  | [] => rfl
  | i :: w => by
    show max (NestedKey.depth (.num i)) (NestedKey.depthAll (w.map NestedKey.num)) = 0
    rw [depth_nums w]
    rfl
theorem keyT_word (w : List Int) : keyT (eWord.en w) = some (wk w) := by
  refine keyT_of ?_ ?_
  · show (match keyDs (w.map D.int) with
      | some ks => some (NestedKey.tup ks)
      | none => none) = _
    rw [keyDs_ints]
    rfl
  · show NestedKey.depthAll (w.map NestedKey.num) + 1 ≤ 8
    rw [depth_nums]
    decide
theorem keyB_word (w : List Int) : keyB (wk w) = eWord.en w := keyT_B (keyT_word w)
theorem wk_inj {a b : List Int} (h : wk a = wk b) : a = b := by
  unfold wk at h
  injection h with h
  exact (List.map_inj_right (f := NestedKey.num) fun x y e => by injection e).mp h
section
variable {α : Type}
/-- a typed table -/
def getT (l : List (List Int × α)) (w : List Int) : Option α := (l.find? fun p => decide (p.1 = w)).map (·.2)
def setT (l : List (List Int × α)) (w : List Int) (q : α) : List (List Int × α) := if (getT l w).isSome = true then l.map (fun p => if p.1 = w then (p.1, q) else p) else l ++ [(w, q)]
def delT (l : List (List Int × α)) (w : List Int) : List (List Int × α) := l.filter fun p => decide (p.1 ≠ w)
def dE (f : α → D) (l : List (List Int × α)) : List (NestedKey × D) := l.map fun p => (wk p.1, f p.2)
theorem dec_wk {a b : List Int} : decide (wk a = wk b) = decide (a = b) := by
  by_cases h : a = b
  · subst h; simp
  · rw [decide_eq_false h, decide_eq_false fun z => h (wk_inj z)]
theorem valD_E (f : α → D) (w : List Int) : ∀ l : List (List Int × α), valD (dE f l) (wk w) = (getT l w).map f
  | [] => rfl
  | p :: l => by
    have ih := valD_E f w l
    unfold valD getT dE at *
    rw [List.map_cons, List.find?_cons, List.find?_cons]
    dsimp only
    rw [dec_wk]
    cases decide (p.1 = w)
    · exact ih
    · rfl
theorem putD_E (f : α → D) (w : List Int) (q : α) (l : List (List Int × α)) : putD (dE f l) (wk w) (f q) = dE f (setT l w q) := by
  unfold putD setT
  rw [valD_E, Option.isSome_map]
  split
  · unfold dE
    rw [List.map_map, List.map_map]
    refine List.map_congr_left fun p _ => ?_
    show (if wk p.1 = wk w then (wk p.1, f q) else (wk p.1, f p.2)) = _
    by_cases h : p.1 = w
    · rw [if_pos (by rw [h])]
      show _ = (fun p : List Int × α => (wk p.1, f p.2)) (if p.1 = w then (p.1, q) else p)
      rw [if_pos h]
    · rw [if_neg fun z => h (wk_inj z)]
      show _ = (fun p : List Int × α => (wk p.1, f p.2)) (if p.1 = w then (p.1, q) else p)
      rw [if_neg h]
  · unfold dE
    rw [List.map_append]
    rfl
theorem dropD_E (f : α → D) (w : List Int) (l : List (List Int × α)) : dropD (dE f l) (wk w) = dE f (delT l w) := by
  unfold dropD delT dE
  rw [List.filter_map]
  congr 1
  refine List.filter_congr fun p _ => ?_
  show decide (wk p.1 ≠ wk w) = decide (p.1 ≠ w)
  by_cases h : p.1 = w
  · simp [h]
  · have : ¬ wk p.1 = wk w := fun z => h (wk_inj z)
    simp [h, this]
theorem keys_E (f : α → D) (l : List (List Int × α)) : (dE f l).map (fun p => keyB p.1) = (l.map (·.1)).map eWord.en := by
  unfold dE
  rw [List.map_map, List.map_map]
  exact List.map_congr_left fun p _ => keyB_word p.1
theorem dE_len (f : α → D) (l : List (List Int × α)) : (dE f l).length = l.length := by unfold dE; rw [List.length_map]
end
/-! the order of words: the shorter first, then as tuples -/
def rkLt (a b : List Int) : Bool := if a.length = b.length then ltN a b else decide (a.length < b.length)
def rkLe (a b : List Int) : Bool := !rkLt b a
def rkKey (w : List Int) : PyData := .tuple [.int (w.length : Nat), eWord.py w]
theorem rkKey_lt (a b : List Int) : PySem.W.dataLt (rkKey a) (rkKey b) = rkLt a b := by
  unfold rkKey
  have ha : PySem.W.alike (eWord.py a) (eWord.py b) = true := by
    show PySem.W.alike (.tuple (a.map PyData.int)) (.tuple (b.map PyData.int)) = true
    rw [PySem.W.alike]
    exact alike_ints a b
  rw [PySem.W.dataLt_pair rfl ha]
  show (if (((a.length : Nat) : Int) == ((b.length : Nat) : Int)) = true then (if PyData.eqv (eWord.py a) (eWord.py b) = true then false else PySem.W.dataLt (eWord.py a) (eWord.py b)) else PySem.W.dataLt (.int (a.length : Nat)) (.int (b.length : Nat))) = _
  unfold rkLt
  rw [lt_word, eWord.heq, PySem.W.dataLt_int]
  by_cases h : a.length = b.length
  · rw [if_pos h, if_pos (by rw [h]; simp)]
    by_cases e : a = b
    · subst e
      rw [if_pos (by simp)]
      have self : ∀ l : List Int, ltN l l = false := fun l => by
        induction l with
        | nil => rfl
        | cons x l ih => unfold ltN; rw [if_pos rfl]; exact ih
      exact (self a).symm
    · rw [if_neg (by simp [e])]
  · rw [if_neg h, if_neg (by simp; omega)]
    rw [Bool.eq_iff_iff, decide_eq_true_iff, decide_eq_true_iff]
    omega
end SW

set_option maxRecDepth 100000
/-! SW22: typed sums of words: adding, the linear look at them, the told sum. -/
namespace SW
open PySem PySem.Spec PyProof.Rows L2
abbrev Wd := List Int
abbrev SumT := List (Wd × Rat)
def coef (l : SumT) (w : Wd) : Rat := (getT l w).getD 0
def addT (l : SumT) (w : Wd) (q : Rat) : SumT := if coef l w + q = 0 then delT l w else setT l w (coef l w + q)
def linS (f : Wd → Rat) : SumT → Rat
  | [] => 0
  | p :: l => p.2 * f p.1 + linS f l
structure Good (l : SumT) : Prop where
  nd : (l.map (·.1)).Nodup
  nz : ∀ p ∈ l, p.2 ≠ 0
theorem good_nil : Good [] := ⟨List.nodup_nil, fun p hp => by cases hp⟩
section
variable {l m : SumT} {w v : Wd} {q : Rat} {f : Wd → Rat}
theorem getT_cons {α : Type} (p : Wd × α) (l : List (Wd × α)) (w : Wd) : getT (p :: l) w = if p.1 = w then some p.2 else getT l w := by
  unfold getT
  rw [List.find?_cons]
  by_cases h : p.1 = w
  · rw [decide_eq_true h, if_pos h]; rfl
  · rw [decide_eq_false h, if_neg h]
theorem getT_none {α : Type} {w : Wd} : ∀ {l : List (Wd × α)}, getT l w = none ↔ w ∉ l.map (·.1)
  | [] => by simp [getT]
  | p :: l => by
    rw [getT_cons, List.map_cons, List.mem_cons]
    by_cases h : p.1 = w
    · simp [h]
    · rw [if_neg h, getT_none]
      have : ¬ w = p.1 := fun z => h z.symm
      simp [this]
theorem getT_mem {α : Type} {w : Wd} {q : α} : ∀ {l : List (Wd × α)}, getT l w = some q → (w, q) ∈ l
  | [], e => by simp [getT] at e
  | p :: l, e => by
    rw [getT_cons] at e
    by_cases h : p.1 = w
    · rw [if_pos h] at e
      cases e
      rw [← h]
      exact List.mem_cons_self
    · rw [if_neg h] at e
      exact List.mem_cons_of_mem _ (getT_mem e)
theorem getT_of_mem {α : Type} {w : Wd} {q : α} : ∀ {l : List (Wd × α)}, (l.map (·.1)).Nodup → (w, q) ∈ l → getT l w = some q
  | [], _, h => by cases h
  | p :: l, n, h => by
    rw [List.map_cons, List.nodup_cons] at n
    rw [getT_cons]
    rcases List.mem_cons.mp h with e | h
    · rw [← e, if_pos rfl]
    · have : ¬ p.1 = w := fun z => n.1 (by rw [z]; exact List.mem_map.mpr ⟨_, h, rfl⟩)
      rw [if_neg this]
      exact getT_of_mem n.2 h
theorem coef_cons (p : Wd × Rat) (l : SumT) (w : Wd) : coef (p :: l) w = if p.1 = w then p.2 else coef l w := by
  unfold coef
  rw [getT_cons]
  split <;> rfl
theorem coef_not (h : w ∉ l.map (·.1)) : coef l w = 0 := by
  unfold coef
  rw [getT_none.mpr h]
  rfl
theorem delT_not {α : Type} {l : List (Wd × α)} {w : Wd} (h : w ∉ l.map (·.1)) : delT l w = l := by
  unfold delT
  refine List.filter_eq_self.mpr fun p hp => ?_
  exact decide_eq_true fun z => h (by rw [← z]; exact List.mem_map.mpr ⟨p, hp, rfl⟩)
theorem lin_del : ∀ {l : SumT}, (l.map (·.1)).Nodup → linS f (delT l w) = linS f l - coef l w * f w
  | [], _ => by
    show (0 : Rat) = 0 - coef [] w * f w
    have : coef ([] : SumT) w = 0 := rfl
    rw [this]; grind
  | p :: l, n => by
    rw [List.map_cons, List.nodup_cons] at n
    rw [coef_cons]
    by_cases h : p.1 = w
    · have e : delT (p :: l) w = delT l w := by unfold delT; rw [List.filter_cons_of_neg (by simp [h])]
      rw [e, delT_not (by rw [← h]; exact n.1), if_pos h]
      show linS f l = p.2 * f p.1 + linS f l - p.2 * f w
      rw [h]; grind
    · have e : delT (p :: l) w = p :: delT l w := by unfold delT; rw [List.filter_cons_of_pos (by simp [h])]
      rw [e, if_neg h]
      show p.2 * f p.1 + linS f (delT l w) = p.2 * f p.1 + linS f l - coef l w * f w
      rw [lin_del n.2]; grind
theorem lin_append (a b : SumT) : linS f (a ++ b) = linS f a + linS f b := by
  induction a with
  | nil => show linS f b = 0 + linS f b; grind
  | cons p a ih => show p.2 * f p.1 + linS f (a ++ b) = p.2 * f p.1 + linS f a + linS f b; rw [ih]; grind
theorem map_not : ∀ {l : SumT}, w ∉ l.map (·.1) → (l.map fun p => if p.1 = w then (p.1, q) else p) = l
  | [], _ => rfl
  | p :: l, h => by
    rw [List.map_cons, List.mem_cons] at h
    rw [List.map_cons, map_not fun z => h (.inr z), if_neg fun z => h (.inl z.symm)]
theorem lin_map : ∀ {l : SumT}, (l.map (·.1)).Nodup → w ∈ l.map (·.1) → linS f (l.map fun p => if p.1 = w then (p.1, q) else p) = linS f l + (q - coef l w) * f w
  | [], _, h => by cases h
  | p :: l, n, h => by
    rw [List.map_cons, List.nodup_cons] at n
    rw [List.map_cons, coef_cons]
    by_cases e : p.1 = w
    · rw [if_pos e, if_pos e, map_not (by rw [← e]; exact n.1)]
      show q * f p.1 + linS f l = p.2 * f p.1 + linS f l + (q - p.2) * f w
      rw [e]; grind
    · rw [if_neg e, if_neg e]
      rw [List.map_cons, List.mem_cons] at h
      show p.2 * f p.1 + linS f _ = p.2 * f p.1 + linS f l + (q - coef l w) * f w
      rw [lin_map n.2 (h.resolve_left fun z => e z.symm)]; grind
theorem isSome_mem {α : Type} {l : List (Wd × α)} : (getT l w).isSome = true ↔ w ∈ l.map (·.1) := by
  have := getT_none (l := l) (w := w)
  cases h : getT l w with
  | none => simp [this.mp h]
  | some x =>
    simp only [Option.isSome_some, true_iff]
    exact Classical.byContradiction fun z => by rw [this.mpr z] at h; cases h
theorem lin_set (n : (l.map (·.1)).Nodup) : linS f (setT l w q) = linS f l + (q - coef l w) * f w := by
  unfold setT
  by_cases h : (getT l w).isSome = true
  · rw [if_pos h, lin_map n (isSome_mem.mp h)]
  · rw [if_neg h, lin_append, coef_not fun z => h (isSome_mem.mpr z)]
    show linS f l + (q * f w + 0) = _
    grind
/-- THE look at an addition -/
theorem lin_add (n : (l.map (·.1)).Nodup) : linS f (addT l w q) = linS f l + q * f w := by
  unfold addT
  split
  · rename_i h
    rw [lin_del n]
    have : coef l w = -q := by grind
    rw [this]; grind
  · rw [lin_set n]; grind
theorem keys_set {α : Type} (l : List (Wd × α)) (w : Wd) (q : α) : (setT l w q).map (·.1) = if (getT l w).isSome = true then l.map (·.1) else l.map (·.1) ++ [w] := by
  unfold setT
  split
  · rw [List.map_map]
    refine List.map_congr_left fun p _ => ?_
    show (if p.1 = w then (p.1, q) else p).1 = p.1
    split <;> rfl
  · rw [List.map_append]; rfl
theorem nodup_set {α : Type} {l : List (Wd × α)} {w : Wd} {q : α} (n : (l.map (·.1)).Nodup) : ((setT l w q).map (·.1)).Nodup := by
  rw [keys_set]
  split
  · exact n
  · rename_i h
    refine List.nodup_append.mpr ⟨n, by simp, ?_⟩
    intro a ha b hb
    rw [List.mem_singleton.mp hb]
    exact fun z => h (isSome_mem.mpr (by rw [← z]; exact ha))
theorem nodup_del {α : Type} {l : List (Wd × α)} {w : Wd} (n : (l.map (·.1)).Nodup) : ((delT l w).map (·.1)).Nodup := by
  unfold delT
  exact n.sublist ((List.filter_sublist).map _)
theorem mem_set {α : Type} {l : List (Wd × α)} {w : Wd} {q : α} {p : Wd × α} (h : p ∈ setT l w q) : p = (w, q) ∨ p ∈ l := by
  unfold setT at h
  split at h
  · obtain ⟨x, hx, e⟩ := List.mem_map.mp h
    split at e
    · rename_i hw; subst hw; exact .inl e.symm
    · subst e; exact .inr hx
  · rcases List.mem_append.mp h with h | h
    · exact .inr h
    · exact .inl (List.mem_singleton.mp h)
theorem Good.add (g : Good l) (w : Wd) (q : Rat) : Good (addT l w q) := by
  unfold addT
  split
  · exact ⟨nodup_del g.nd, fun p hp => g.nz p (List.mem_filter.mp hp).1⟩
  · rename_i h
    refine ⟨nodup_set g.nd, fun p hp => ?_⟩
    rcases mem_set hp with e | hp
    · rw [e]; exact h
    · exact g.nz p hp
theorem set_len {α : Type} (l : List (Wd × α)) (w : Wd) (q : α) : (setT l w q).length ≤ l.length + 1 := by
  unfold setT
  split
  · rw [List.length_map]; omega
  · rw [List.length_append]; simp
theorem add_len (l : SumT) (w : Wd) (q : Rat) : (addT l w q).length ≤ l.length + 1 := by
  unfold addT
  split
  · have : (delT l w).length ≤ l.length := List.length_filter_le _ _
    omega
  · exact set_len _ _ _
/-- one word's look -/
def ind (w : Wd) : Wd → Rat := fun v => if v = w then 1 else 0
theorem lin_ind : ∀ {l : SumT}, (l.map (·.1)).Nodup → linS (ind w) l = coef l w
  | [], _ => rfl
  | p :: l, n => by
    rw [List.map_cons, List.nodup_cons] at n
    rw [coef_cons]
    show p.2 * ind w p.1 + linS (ind w) l = _
    rw [lin_ind n.2]
    unfold ind
    by_cases h : p.1 = w
    · rw [if_pos h, if_pos h, coef_not (by rw [← h]; exact n.1)]; grind
    · rw [if_neg h, if_neg h]; grind
theorem coef_add (n : Good l) : coef (addT l w q) v = coef l v + (if w = v then q else 0) := by
  rw [← lin_ind (n.add w q).nd, lin_add n.nd, lin_ind n.nd]
  unfold ind
  split <;> grind
theorem coef_mem (g : Good l) : w ∈ l.map (·.1) ↔ coef l w ≠ 0 := by
  constructor
  · intro h
    obtain ⟨p, hp, e⟩ := List.mem_map.mp h
    have : getT l w = some p.2 := getT_of_mem g.nd (by rw [← e]; exact hp)
    unfold coef
    rw [this]
    exact g.nz p hp
  · intro h
    exact Classical.byContradiction fun z => h (coef_not z)
theorem lin_perm (h : l.Perm m) : linS f l = linS f m := by
  induction h with
  | nil => rfl
  | cons p _ ih => show p.2 * f p.1 + linS f _ = p.2 * f p.1 + linS f _; rw [ih]
  | swap p q l => show q.2 * f q.1 + (p.2 * f p.1 + linS f l) = p.2 * f p.1 + (q.2 * f q.1 + linS f l); grind
  | trans _ _ a b => rw [a, b]
theorem lin_congr {g : Wd → Rat} : ∀ {l : SumT}, (∀ p ∈ l, f p.1 = g p.1) → linS f l = linS g l
  | [], _ => rfl
  | p :: l, h => by
    show p.2 * f p.1 + linS f l = p.2 * g p.1 + linS g l
    rw [h p List.mem_cons_self, lin_congr fun q hq => h q (List.mem_cons_of_mem _ hq)]
theorem lin_scale (c : Rat) : ∀ l : SumT, linS (fun v => c * f v) l = c * linS f l
  | [] => by show (0 : Rat) = c * 0; grind
  | p :: l => by
    show p.2 * (c * f p.1) + linS (fun v => c * f v) l = c * (p.2 * f p.1 + linS f l)
    rw [lin_scale c l]; grind
end

/-! ### the order of words -/
theorem ltN_self : ∀ l : Wd, ltN l l = false
  | [] => rfl
  | x :: l => by unfold ltN; rw [if_pos rfl]; exact ltN_self l
theorem ltN_asymm : ∀ a b : Wd, ltN a b = true → ltN b a = false
  | [], [], h => by cases h
  | [], _ :: _, _ => rfl
  | _ :: _, [], h => by cases h
  | x :: a, y :: b, h => by
    unfold ltN at h ⊢
    by_cases e : x = y
    · rw [if_pos e] at h
      rw [if_pos e.symm]
      exact ltN_asymm a b h
    · rw [if_neg e] at h
      rw [if_neg fun z => e z.symm]
      have := of_decide_eq_true h
      exact decide_eq_false (by omega)
theorem ltN_trans : ∀ a b c : Wd, ltN a b = true → ltN b c = true → ltN a c = true
  | a, [], _, h, _ => by
    have e : ltN a [] = false := by cases a <;> rfl
    rw [e] at h; cases h
  | _, _ :: _, [], _, h => by cases h
  | [], _ :: _, _ :: _, _, _ => rfl
  | x :: a, y :: b, z :: c, h1, h2 => by
    unfold ltN at h1 h2 ⊢
    by_cases e1 : x = y
    · rw [if_pos e1] at h1
      by_cases e2 : y = z
      · rw [if_pos e2] at h2
        rw [if_pos (e1.trans e2)]
        exact ltN_trans a b c h1 h2
      · rw [if_neg e2] at h2
        rw [if_neg (by rw [e1]; exact e2), e1]
        exact h2
    · rw [if_neg e1] at h1
      have q1 := of_decide_eq_true h1
      by_cases e2 : y = z
      · rw [if_neg (by rw [← e2]; exact e1), ← e2]; exact h1
      · rw [if_neg e2] at h2
        have q2 := of_decide_eq_true h2
        rw [if_neg (by omega)]
        exact decide_eq_true (by omega)
theorem ltN_total : ∀ a b : Wd, ltN a b = false → ltN b a = false → a = b
  | [], [], _, _ => rfl
  | [], _ :: _, h, _ => by cases h
  | _ :: _, [], _, h => by cases h
  | x :: a, y :: b, h1, h2 => by
    unfold ltN at h1 h2
    by_cases e : x = y
    · rw [if_pos e] at h1
      rw [if_pos e.symm] at h2
      rw [e, ltN_total a b h1 h2]
    · rw [if_neg e] at h1
      rw [if_neg fun z => e z.symm] at h2
      have := of_decide_eq_false h1
      have := of_decide_eq_false h2
      omega
theorem rkLt_self (a : Wd) : rkLt a a = false := by unfold rkLt; rw [if_pos rfl]; exact ltN_self a
theorem rkLt_asymm {a b : Wd} (h : rkLt a b = true) : rkLt b a = false := by
  unfold rkLt at h ⊢
  by_cases e : a.length = b.length
  · rw [if_pos e] at h
    rw [if_pos e.symm]
    exact ltN_asymm a b h
  · rw [if_neg e] at h
    rw [if_neg fun z => e z.symm]
    have := of_decide_eq_true h
    exact decide_eq_false (by omega)
theorem rkLt_trans {a b c : Wd} (h1 : rkLt a b = true) (h2 : rkLt b c = true) : rkLt a c = true := by
  unfold rkLt at h1 h2 ⊢
  by_cases e1 : a.length = b.length
  · rw [if_pos e1] at h1
    by_cases e2 : b.length = c.length
    · rw [if_pos e2] at h2
      rw [if_pos (e1.trans e2)]
      exact ltN_trans a b c h1 h2
    · rw [if_neg e2] at h2
      have q2 := of_decide_eq_true h2
      rw [if_neg (by omega)]
      exact decide_eq_true (by omega)
  · rw [if_neg e1] at h1
    have q1 := of_decide_eq_true h1
    by_cases e2 : b.length = c.length
    · rw [if_neg (by omega)]
      exact decide_eq_true (by omega)
    · rw [if_neg e2] at h2
      have q2 := of_decide_eq_true h2
      rw [if_neg (by omega)]
      exact decide_eq_true (by omega)
theorem rkLt_total {a b : Wd} (h1 : rkLt a b = false) (h2 : rkLt b a = false) : a = b := by
  unfold rkLt at h1 h2
  by_cases e : a.length = b.length
  · rw [if_pos e] at h1
    rw [if_pos e.symm] at h2
    exact ltN_total a b h1 h2
  · rw [if_neg e] at h1
    rw [if_neg fun z => e z.symm] at h2
    have := of_decide_eq_false h1
    have := of_decide_eq_false h2
    omega
theorem rkLe_trans (a b c : Wd) (h1 : rkLe a b = true) (h2 : rkLe b c = true) : rkLe a c = true := by
  unfold rkLe at h1 h2 ⊢
  have e1 : rkLt b a = false := by simpa using h1
  have e2 : rkLt c b = false := by simpa using h2
  cases h : rkLt c a with
  | false => rfl
  | true =>
    exfalso
    cases hab : rkLt a b with
    | true => rw [rkLt_trans h hab] at e2; cases e2
    | false =>
      have := rkLt_total hab e1
      subst this
      rw [h] at e2; cases e2
theorem rkLe_total (a b : Wd) : (rkLe a b || rkLe b a) = true := by
  unfold rkLe
  cases h : rkLt b a with
  | false => simp
  | true => rw [rkLt_asymm h]; simp
/-- sorted without doubles: each less than the next -/
def Rising (l : List Wd) : Prop := l.Pairwise fun a b => rkLt a b = true
theorem Rising.nodup {l : List Wd} (h : Rising l) : l.Nodup := h.imp fun {a b} q z => by subst z; rw [rkLt_self] at q; cases q
theorem rising_sort {l : List Wd} (n : l.Nodup) : Rising (l.mergeSort rkLe) := by
  have p := List.pairwise_mergeSort (le := rkLe) rkLe_trans rkLe_total l
  have n' : (l.mergeSort rkLe).Nodup := (List.mergeSort_perm l rkLe).nodup_iff.mpr n
  refine (List.Pairwise.and p n').imp fun {a b} q => ?_
  obtain ⟨h, ne⟩ := q
  unfold rkLe at h
  have h : rkLt b a = false := by simpa using h
  cases e : rkLt a b with
  | true => rfl
  | false => exact (ne (rkLt_total e h)).elim
/-- rising lists of the same words are one -/
theorem rising_eq : ∀ {a b : List Wd}, Rising a → Rising b → (∀ w, w ∈ a ↔ w ∈ b) → a = b
  | [], [], _, _, _ => rfl
  | [], y :: b, _, _, h => by have := (h y).mpr List.mem_cons_self; cases this
  | x :: a, [], _, _, h => by have := (h x).mp List.mem_cons_self; cases this
  | x :: a, y :: b, ha, hb, h => by
    have ha' := List.pairwise_cons.mp ha
    have hb' := List.pairwise_cons.mp hb
    have e : x = y := by
      rcases List.mem_cons.mp ((h x).mp List.mem_cons_self) with e | hx
      · exact e
      · rcases List.mem_cons.mp ((h y).mpr List.mem_cons_self) with e | hy
        · exact e.symm
        · have q1 := hb'.1 x hx
          have q2 := ha'.1 y hy
          rw [rkLt_asymm q1] at q2; cases q2
    subst e
    rw [rising_eq ha'.2 hb'.2 fun w => ?_]
    constructor
    · intro hw
      rcases List.mem_cons.mp ((h w).mp (List.mem_cons_of_mem _ hw)) with e | hw2
      · subst e; have := ha'.1 w hw; rw [rkLt_self] at this; cases this
      · exact hw2
    · intro hw
      rcases List.mem_cons.mp ((h w).mpr (List.mem_cons_of_mem _ hw)) with e | hw2
      · subst e; have := hb'.1 w hw; rw [rkLt_self] at this; cases this
      · exact hw2
/-- the told sum of a table -/
def toldT (l : SumT) : SumT := ((l.map (·.1)).mergeSort rkLe).map fun w => (w, coef l w)
theorem told_keys (l : SumT) : (toldT l).map (·.1) = (l.map (·.1)).mergeSort rkLe := by
  unfold toldT
  rw [List.map_map]
  exact List.map_id _
theorem told_perm {l : SumT} (n : (l.map (·.1)).Nodup) : (toldT l).Perm l := by
  unfold toldT
  have p := (List.mergeSort_perm (l.map (·.1)) rkLe).map fun w => (w, coef l w)
  rw [List.map_map] at p
  refine p.trans ?_
  have e : l.map ((fun w => (w, coef l w)) ∘ fun p => p.1) = l := by
    conv => rhs; rw [← List.map_id l]
    refine List.map_congr_left fun p hp => ?_
    show (p.1, coef l p.1) = p
    unfold coef
    rw [getT_of_mem n (q := p.2) hp]
    rfl
  rw [e]
/-- a sum as it is told -/
structure Sm (l : SumT) : Prop where
  up : Rising (l.map (·.1))
  nz : ∀ p ∈ l, p.2 ≠ 0
theorem Sm.good {l : SumT} (h : Sm l) : Good l := ⟨h.up.nodup, h.nz⟩
theorem Good.told {l : SumT} (g : Good l) : Sm (toldT l) := ⟨by rw [told_keys]; exact rising_sort g.nd, fun p hp => g.nz p ((told_perm g.nd).mem_iff.mp hp)⟩
theorem lin_told {l : SumT} {f : Wd → Rat} (g : Good l) : linS f (toldT l) = linS f l := lin_perm (told_perm g.nd)
theorem coef_told {l : SumT} (g : Good l) (w : Wd) : coef (toldT l) w = coef l w := by rw [← lin_ind g.told.good.nd, lin_told g, lin_ind g.nd]
/-- sums that look alike are one -/
theorem sm_eq {a b : SumT} (ha : Sm a) (hb : Sm b) (h : ∀ f, linS f a = linS f b) : a = b := by
  have hc : ∀ w, coef a w = coef b w := fun w => by rw [← lin_ind ha.good.nd, ← lin_ind hb.good.nd, h]
  have hk : a.map (·.1) = b.map (·.1) := rising_eq ha.up hb.up fun w => by rw [coef_mem ha.good, coef_mem hb.good, hc]
  have key : ∀ {l : SumT}, Good l → l = (l.map (·.1)).map fun w => (w, coef l w) := fun {l} g => by
    rw [List.map_map]
    conv => lhs; rw [← List.map_id l]
    refine List.map_congr_left fun p hp => ?_
    show p = (p.1, coef l p.1)
    unfold coef
    rw [getT_of_mem g.nd (q := p.2) hp]
    rfl
  rw [key ha.good, key hb.good, hk]
  exact List.map_congr_left fun w _ => by rw [hc]
theorem told_eq {a b : SumT} (ha : Good a) (hb : Good b) (h : ∀ f, linS f a = linS f b) : toldT a = toldT b := sm_eq ha.told hb.told fun f => by rw [lin_told ha, lin_told hb, h]
end SW

set_option maxRecDepth 100000
/-! SW23: more of loops. -/
namespace SW
open PySem PySem.Spec PyProof.Rows L2
theorem all_find {α : Type} {c : α → Bool} : ∀ {l : List α}, l.find? c = none → l.all (fun i => !c i) = true
  | [], _ => rfl
  | a :: l, h => by
    rw [List.find?_eq_none] at h
    rw [List.all_eq_true]
    intro x hx
    have := h x hx
    simpa using this
theorem any_find {α : Type} {c : α → Bool} {l : List α} {i : α} (h : l.find? c = some i) : l.all (fun i => !c i) = false := by
  have h1 := List.find?_some h
  have h2 := List.mem_of_find?_eq_some h
  rw [Bool.eq_false_iff]
  intro z
  rw [List.all_eq_true] at z
  have := z i h2
  rw [h1] at this
  cases this
/-- a loop that turns a state; what is left of the list is known -/
theorem forL_foldr {ι σ : Type} {b : D → Rho → Option Rho} {g : Rho → Out Fl} {f : ι → D} {St : List ι → σ → Rho → Prop} {step : σ → ι → σ} : ∀ (l : List ι) (s : σ) (ρ : Rho), St l s ρ → (∀ i l s ρ, St (i :: l) s ρ → ∃ ρ1 ρ2, b (f i) ρ = some ρ1 ∧ g ρ1 = .ok (.nx ρ2) ∧ St l (step s i) ρ2) →
    ∃ ρ', forL b g (l.map f) ρ = .ok (.nx ρ') ∧ St [] (l.foldl step s) ρ'
  | [], s, ρ, h, _ => ⟨ρ, rfl, h⟩
  | i :: l, s, ρ, h, st => by
    obtain ⟨ρ1, ρ2, e1, e2, h2⟩ := st i l s ρ h
    obtain ⟨ρ', e3, h3⟩ := forL_foldr l (step s i) ρ2 h2 st
    refine ⟨ρ', ?_, h3⟩
    rw [List.map_cons]
    unfold forL
    rw [e1]
    dsimp only
    rw [e2, bind_ok]
    exact e3
end SW

set_option maxRecDepth 100000
/-! SW24: sorted(e) without a key, x.pop(i). -/
namespace SW
open PySem PySem.Spec PyProof.Rows L2
open PySem.W (EachIs dataLe AllAlike Sortable alike)

/-! ### tuples among which some are empty -/
section
open PySem.SeqAt PySem.W
variable {prog : Program} {w : World} {A : Around} {E : Value → Shared → Prop} {s : Shared}
variable {M : Model}
end
section
variable {X : Cx}
variable {W : WX} {os os1 : Os} {e : Expr} {f : Rho → Out (D × Rho)} {pos p : Pos}
/-! x.pop(i) -/
theorem AtL.erase {K : PySem.W.Frag} {S : Hp} : ∀ {vs : List V} {ds : List D} (k : Nat), AtL K S vs ds → AtL K S (vs.eraseIdx k) (ds.eraseIdx k)
  | _, _, _, .nil => .nil
  | _, _, 0, .cons h t => t
  | _, _, k + 1, .cons h t => .cons h (AtL.erase k t)
end
end SW

set_option maxRecDepth 100000
/-! SW25: dict(list of pairs). -/
namespace SW
open PySem PySem.Spec PyProof.Rows L2

/-- one pair on the heap -/
structure Pz where
  k : NestedKey
  b : Addr
  v : V
  u : Value
  t : Addr
def pairD : D → Option (NestedKey × D)
  | .tup [kd, vd] => (keyT kd).map fun k => (k, vd)
  | _ => none
def pairsD : List D → Option (List (NestedKey × D))
  | [] => some []
  | d :: ds => match pairD d, pairsD ds with
    | some p, some ps => some (p :: ps)
    | _, _ => none
def putAll (ps : List (NestedKey × D)) (acc : List (NestedKey × D)) : List (NestedKey × D) := ps.foldl (fun a p => putD a p.1 p.2) acc
def dictD : D → Option D
  | .lst ds => (pairsD ds).map fun ps => .dct (putAll ps [])
  | _ => none
section
variable {X : Cx} {pins : List (Addr × Obj)} {σ : L2.St} {S H : Hp} {s : Shared}
structure PzOk (X : Cx) (S : Hp) (s : Shared) (z : Pz) (p : NestedKey × D) : Prop where
  k : z.k = p.1
  hk : At X.K S (.ref z.b) (keyB p.1)
  kt : keyT (keyB p.1) = some p.1
  hv : At X.K S z.v p.2
  rv : RelV z.v z.u
  tp : s.heap.IsTuple z.t #[.ref z.b, z.u]
theorem pair_tup {d : D} {p : NestedKey × D} (h : pairD d = some p) : ∃ kd vd, d = .tup [kd, vd] ∧ keyT kd = some p.1 ∧ p.2 = vd := by
  unfold pairD at h
  split at h
  · rename_i kd vd
    generalize hk : keyT kd = o at h
    cases o with
    | none => cases h
    | some k => cases h; exact ⟨kd, vd, rfl, hk, rfl⟩
  · cases h
theorem at_tup {K : PySem.W.Frag} {S : Hp} {v : V} {ds : List D} (h : At K S v (.tup ds)) : ∃ a vs, v = .ref a ∧ SqT K S a vs ∧ AtL K S vs ds := by
  cases h with
  | tup h z r => exact ⟨_, _, rfl, h, r⟩
theorem atl2 {K : PySem.W.Frag} {S : Hp} {vs : List V} {d e : D} (h : AtL K S vs [d, e]) : ∃ x y, vs = [x, y] ∧ At K S x d ∧ At K S y e := by
  cases h with
  | cons h1 t =>
    cases t with
    | cons h2 t2 => cases t2; exact ⟨_, _, rfl, h1, h2⟩
theorem rv2 {x y : V} {us : List Value} (h : Vals [x, y] us) : ∃ u w, us = [u, w] ∧ RelV x u ∧ RelV y w := by
  cases h with
  | cons h1 t =>
    cases t with
    | cons h2 t2 => cases t2; exact ⟨_, _, rfl, h1, h2⟩
theorem pget {α β : Type} {F : α → β → Prop} : ∀ {l : List α} {m : List β} {j : Nat} {a : α}, Paired F l m → l[j]? = some a → ∃ b, F a b
  | _, _, _, _, .nil, h => by simp at h
  | _, _, 0, _, .cons h _, e => by cases (show some _ = some _ by simpa using e); exact ⟨_, h⟩
  | _, _, j + 1, _, .cons _ t, e => pget t (j := j) (by simpa using e)
theorem pz_one (I : Inv X pins σ H s) (sub : Same S H) {v : V} {d : D} {u : Value} {p : NestedKey × D} (hat : At X.K S v d) (r : RelV v u) (h : pairD d = some p) : ∃ z, u = .ref z.t ∧ PzOk X S s z p := by
  obtain ⟨kd, vd, rfl, hk, hv⟩ := pair_tup h
  obtain ⟨a, vs, rfl, hs, rr⟩ := at_tup hat
  obtain ⟨kv, vv, rfl, hkv, hvv⟩ := atl2 rr
  obtain ⟨b, rfl, hb⟩ := at_key hkv hk
  obtain ⟨its, rv, ht, hz⟩ := I.tuple (sqT_mono sub hs)
  obtain ⟨bu, vu, rfl, rb, ru⟩ := rv2 rv
  obtain rfl : bu = Value.ref b := rb
  obtain rfl : u = Value.ref a := r
  exact ⟨⟨p.1, b, vv, vu, a⟩, rfl, ⟨rfl, hb, keyT_back hk, by rw [hv]; exact hvv, ru, ht⟩⟩
theorem pz_all (I : Inv X pins σ H s) (sub : Same S H) : ∀ {vs : List V} {ds : List D} {us : List Value} {ps : List (NestedKey × D)}, AtL X.K S vs ds → Vals vs us → pairsD ds = some ps → ∃ zs : List Pz, us = zs.map (fun z => .ref z.t) ∧ Paired (PzOk X S s) zs ps
  | _, _, _, _, .nil, .nil, h => by cases h; exact ⟨[], rfl, .nil⟩
  | _, _, _, _, .cons h1 t1, .cons h2 t2, h => by
    unfold pairsD at h
    split at h
    · rename_i p ps e1 e2
      cases h
      obtain ⟨z, rfl, hz⟩ := pz_one I sub h1 h2 e1
      obtain ⟨zs, rfl, hzs⟩ := pz_all I sub t1 t2 e2
      exact ⟨z :: zs, rfl, .cons hz hzs⟩
    · cases h
def storeAllX (zs : List Pz) (acc : XL) : XL := zs.foldl (fun a z => storeX a z.k z.b z.v) acc
theorem xr_all : ∀ (zs : List Pz) {xs : XL} {ys : List (NestedKey × Addr × Value)}, (∀ z ∈ zs, RelV z.v z.u) → XR xs ys → XR (storeAllX zs xs) (storedAllH ys (zs.map fun z => (z.k, z.b, z.u)))
  | [], _, _, _, r => r
  | z :: zs, _, _, h, r => xr_all zs (fun y hy => h y (List.mem_cons_of_mem _ hy)) (r.store z.k z.b (h z List.mem_cons_self))
theorem xd_all : ∀ {zs : List Pz} {ps : List (NestedKey × D)}, Paired (PzOk X S s) zs ps → ∀ {xs : XL} {ds : List (NestedKey × D)}, XD X.K S xs ds → (∀ p ∈ xs, keyT (keyB p.1) = some p.1) → XD X.K S (storeAllX zs xs) (putAll ps ds) ∧ ∀ p ∈ storeAllX zs xs, keyT (keyB p.1) = some p.1
  | _, _, .nil, _, _, r, hk => ⟨r, hk⟩
  | _, _, .cons h t, _, _, r, hk => by
    exact xd_all t (show XD X.K S (storeX _ _ _ _) (putD _ _ _) from by rw [h.k]; exact XD.store r h.hk h.hv) (store_kk hk (by rw [h.k]; exact h.kt))
theorem putAll_len : ∀ (ps ds : List (NestedKey × D)), (putAll ps ds).length ≤ ds.length + ps.length
  | [], _ => Nat.le_refl _
  | p :: ps, ds => by
    have := putAll_len ps (putD ds p.1 p.2)
    have := putD_len ds p.1 p.2
    rw [List.length_cons]
    show (putAll ps (putD ds p.1 p.2)).length ≤ _
    omega
theorem pairsD_len : ∀ {ds : List D} {ps : List (NestedKey × D)}, pairsD ds = some ps → ps.length = ds.length
  | [], _, h => by cases h; rfl
  | d :: ds, ps, h => by
    unfold pairsD at h
    split at h
    · rename_i p ps e1 e2
      cases h
      rw [List.length_cons, List.length_cons, pairsD_len e2]
    · cases h
def rDictL (K : PySem.W.Frag) : List V → Hp → VK → Prop := fun vs H Q => ∃ x S ds ps, vs = [x] ∧ Same S H ∧ At K S x (.lst ds) ∧ pairsD ds = some ps ∧
  ∀ p y xs, H p = none → NewX p xs y → XD K S xs (putAll ps []) → (∀ q ∈ xs, keyT (keyB q.1) = some q.1) → Q (.ref p) (upd H p (DT p y))
theorem call_dictL (hcalm : X.calm = true) (hu : X.A.units + 64 < cLine) : CallR X (.type "dict") (rDictL X.K) := by
  intro pins s σ H xs us Q I r h
  obtain ⟨x, S, ds, ps, rfl, sub, hat, hps, q⟩ := h
  obtain ⟨u, rfl, rx⟩ := vals1 r
  cases hat with
  | @lst a vs _ hs z rr =>
    obtain ⟨its, rv, pl, hz⟩ := I.list (SqL.of (K := X.K) (sub _ _ hs))
    obtain ⟨zs, rfl, hzs⟩ := pz_all I sub rr rv hps
    obtain rfl : u = Value.ref a := rx
    have lz : zs.length = ps.length := hzs.length
    have hzl : zs.length ≤ sizeLine := by rw [lz, pairsD_len hps]; exact z
    have hpi : PairItems s.heap (zs.map (fun z => Value.ref z.t)).toArray (fun j => (zs.map (·.t)).getD j 0) (zs.map fun z => (Value.ref z.b, z.u)) := by
      refine ⟨by simp, fun j k v hj => ?_⟩
      rw [List.getElem?_map] at hj
      cases hz2 : zs[j]? with
      | none => rw [hz2] at hj; cases hj
      | some y =>
        rw [hz2] at hj
        cases hj
        have et : (zs.map (·.t)).getD j 0 = y.t := by rw [List.getD_eq_getElem?_getD, List.getElem?_map, hz2]; rfl
        refine ⟨?_, ?_⟩
        · rw [List.getElem?_toArray, List.getElem?_map, hz2]
          show some (Value.ref y.t) = some (Value.ref ((zs.map (·.t)).getD j 0))
          rw [et]
        · show PairAt s.heap ((zs.map (·.t)).getD j 0) _ _
          rw [et]
          obtain ⟨p, ok⟩ := pget hzs hz2
          exact .inl ok.tp
    have hall : ∀ y ∈ zs, ∃ p, PzOk X S s y p := fun y hy => by
      obtain ⟨j, hj⟩ := List.getElem?_of_mem hy
      obtain ⟨p, ok⟩ := pget hzs hj
      exact ⟨p, ok⟩
    have hnew := I.hok.fresh (Nat.le_refl s.heap.objs.size)
    refine call_dict_pairsH (knd := nestedKind X.prog X.w) (ps := zs.map fun z => (z.k, z.b, z.u)) (PairArg.list a (zs.map (fun z => Value.ref z.t)).toArray (fun j => (zs.map (·.t)).getD j 0) (zs.map fun z => (Value.ref z.b, z.u))) (I.ok.hd hcalm) (by show X.A.units + 1 + 1 + 8 < cLine; omega) ⟨(let ⟨o, m, e, c, d, q⟩ := pl; ⟨o, m, e, c, d, q⟩), hpi⟩ ⟨by simp, fun i key v hr => ?_⟩ (fun h' hk p hp => ?_) (by rw [List.length_map]; exact hzl) fun h' tk dd hk => ?_
    · have hr : (zs.map fun z => (Value.ref z.b, z.u))[i]? = some (key, v) := hr
      rw [List.getElem?_map] at hr
      cases hz2 : zs[i]? with
      | none => rw [hz2] at hr; cases hr
      | some y =>
        rw [hz2] at hr
        cases hr
        exact ⟨y.k, y.b, by rw [List.getElem?_map, hz2]; rfl, rfl⟩
    · obtain ⟨y, hy, rfl⟩ := List.mem_map.mp hp
      obtain ⟨p, ok⟩ := hall y hy
      have I' : Inv X pins σ H { s with heap := h' } := I.kept (t' := s.toks) fun b o e => hk b o (Nat.ne_of_lt (Heap.lt_size e)) (by simp) e
      have ki := KeyAt.is I' (show KeyAt X.K H y.b p.1 from ⟨S, _, sub, ok.hk, ok.kt⟩)
      rw [← ok.k] at ki
      exact ki
    · obtain ⟨r2, kk⟩ := xd_all hzs (xs := []) (ds := []) .nil (fun p hp => by cases hp)
      have xr := xr_all zs (xs := []) (ys := []) (fun y hy => let ⟨p, ok⟩ := hall y hy; ok.rv) .nil
      obtain ⟨y, hn, hy⟩ := new_x (X := X) (a := s.heap.objs.size) (beq_eq_false_iff_ne.mpr (Ne.symm (Nat.ne_of_lt I.big))) dd xr (fun p hp => let ⟨_, _, e, _⟩ := keyT_some (kk p hp); keyD_free e)
      exact ⟨.ref s.heap.objs.size, _, I.laid (a := s.heap.objs.size) (o := DT s.heap.objs.size y) (t' := tk) (fun b o e => hk b o (by simp) e) (Nat.le_refl _) (dt_ok hy), rfl, q _ y _ hnew hn r2 kk⟩
variable {W : WX} {os os1 : Os} {e : Expr} {f : Rho → Out (D × Rho)} {pos p : Pos}
def eDictL (f : Rho → Out (D × Rho)) : Rho → Out (D × Rho) := fun ρ => (f ρ).bind fun p => (Out.of (dictD p.1)).bind fun c => .ok (c, p.2)
theorem ve_dictL (hu : X.A.units + 64 < cLine) (ha : VE X W os e f os1 false) (hm : X.mg "dict" = none) (hc : X.calm = true := by rfl)
    (hg : Gl X "dict" := by rfl) (he1 : starEach [e] X.env = (false, eval e X.env) :: starEach [] X.env := by rfl) (hpl : (backTo pos (starEach [] X.env)).any (·.1) = false := by rfl) :
    VE X W os (.Call (.Name "dict" p) [e] [] pos) (eDictL f) os1 true := by
  obtain ⟨ta, pa, ka⟩ := ha
  refine ⟨_, pe_callTy (call_dictL hc hu) hg hm (by decide +kernel) (pa_cons pa pa_nil he1) (by decide) (by decide) he1 hpl, fun S σ H ρ Q rel P => ?_⟩
  refine ka S σ H ρ _ rel (Post.seq P (fun z => z) (fun c fs p => p) fun d ρ1 v S1 H1 st1 rel1 q1 P1 => ?_)
  have P1 := P1.step RV.ok st1
  dsimp only at P1
  cases d with
  | lst ds =>
    have P1 : Post X W S1 H1 os1 σ os1 (RV X.K true) Q ((Out.of ((pairsD ds).map fun ps => D.dct (putAll ps []))).bind fun c => .ok (c, ρ1)) := P1
    cases hs : pairsD ds with
    | none => rw [hs] at P1; exact P1.elim
    | some ps =>
      rw [hs] at P1
      have q1 : At X.K S1 v (.lst ds) := q1
      refine ⟨v, S1, ds, ps, rfl, rel1.sub, q1, hs, fun l y xs nl hn hxd hk => ?_⟩
      have xx := Ext.newO (O := fun _ => False) (o := DT l y) rel1.sub nl
      obtain ⟨t, r⟩ := hn.tok hxd hk
      have hz : (putAll ps []).length ≤ sizeLine := by
        have h1 := putAll_len ps []
        rw [pairsD_len hs, List.length_nil, Nat.zero_add] at h1
        refine Nat.le_trans h1 ?_
        cases q1 with
        | lst _ z _ => exact z
      exact P1 (.ref l) S1 _ (Stp.of_ext xx) (rel1.ext0 xx) ⟨.mkX (rel1.sub.free nl) upd_same t hz r, fun a e => by cases e; exact nl⟩
  | _ => exact P1.elim
end
end SW

set_option maxRecDepth 100000
/-! SW26: x[::-1] of lists. -/
namespace SW
open PySem PySem.Spec PyProof.Rows L2
section
variable {X : Cx} {W : WX} {os os1 os2 : Os} {e st : Expr} {f fs : Rho → Out (D × Rho)} {pos p2 : Pos} {te : TE} {ts : TO}
end
end SW

set_option maxRecDepth 100000
/-! SW27: raise C(); try: x = e, except C as n: y = n. -/
namespace SW
open PySem PySem.Spec PyProof.Rows L2
/-- what is known of an error's class -/
structure ExF (K : PySem.W.Frag) (mg : Str → Option Value) (x : Str) (C : Addr) : Prop where
  g : mg x = some (.ref C)
  k : PySem.W.keepIn K (.ref C) = true
  e : PySem.W.excIn K C vBase "ValueError.__new__" = true
  s : PySem.W.subIn K (.ref C) (.type "BaseException") = some true
  t : PySem.W.typeIn K (.ref C) = some (.type "type")
section
variable {X : Cx} {W : WX} {L : Lc} {os os1 : Os} {pos p cp : Pos} {x : Str} {C : Addr}
/-! ### try -/
theorem Rel.none {K : PySem.W.Frag} {S H : Hp} {σ : Sg} {ρ : Rho} (r : Rel K S H os σ ρ) (i : Nat) (hi : os.getD i false = false) : Rel K S H os (σ.set i none) (ρ.set i none) where
  sub := r.sub
  len := by rw [List.length_set, List.length_set]; exact r.len
  slot := fun j x d e1 e2 => by
    by_cases hj : i = j
    · subst hj
      have h1 := (List.getElem?_eq_some_iff.mp e1).1
      have h2 := (List.getElem?_eq_some_iff.mp e2).1
      rw [List.length_set] at h1 h2
      rw [List.getElem?_set_self h1] at e1
      rw [List.getElem?_set_self h2] at e2
      cases e1; cases e2
      cases os.getD i false <;> trivial
    · rw [List.getElem?_set_ne hj] at e1 e2
      exact r.slot j x d e1 e2
  sep := fun j k a h1 h2 e1 e2 => by
    have hj : i ≠ j := fun z => by subst z; rw [hi] at h1; cases h1
    have hk : i ≠ k := fun z => by subst z; rw [hi] at h2; cases h2
    rw [List.getElem?_set_ne hj] at e1
    rw [List.getElem?_set_ne hk] at e2
    exact r.sep j k a h1 h2 e1 e2
end
end SW

set_option maxRecDepth 100000
/-! SW28: isinstance of a kept error; l.index(x). -/
namespace SW
open PySem PySem.Spec PyProof.Rows L2
section
variable {X : Cx} {W : WX} {os os1 os2 : Os} {e ec e2 : Expr} {f f2 : Rho → Out (D × Rho)} {pos p : Pos}
/-! l.index(x) -/
end
end SW

set_option maxRecDepth 100000
/-! SW29: instances of a class: attributes, methods, making, storing; a call that borrows. -/
namespace SW
open PySem PySem.Spec PyProof.Rows L2
section
variable {K : PySem.W.Frag} {S : Hp}
end
/-- what is known of a class -/
structure ClsF (K : PySem.W.Frag) (mg : Str → Option Value) (c : Str) (C : Addr) : Prop where
  g : mg c = some (.ref C)
  n : PySem.W.nsIn K mainGlobals c = some (some (.ref C))
  cl : Cls K C
section
variable {X : Cx} {W : WX} {os os1 os2 : Os} {e o : Expr} {es : List Expr} {f : Str} {fo : Rho → Out (D × Rho)} {g : Rho → Out (List D × Rho)} {pos apos p : Pos} {c m : Str} {C fa : Addr} {fd : FuncData} {ps : List Str} {k kk : Nat} {r : Bool} {sp : Sp} {E : L2.St → XK} {ta : TE} {t : TA}
/-! ### methods -/
end
end SW

set_option maxRecDepth 100000
/-! SW30: an instance is made; its attributes are stored; a call that borrows what a name owns. -/
namespace SW
open PySem PySem.Spec PyProof.Rows L2
section
variable {X : Cx} {W : WX} {L : Lc} {os os1 os2 : Os} {e o : Expr} {es : List Expr} {f : Str} {fe : Rho → Out (D × Rho)} {g : Rho → Out (List D × Rho)} {pos apos p : Pos} {c m x : Str} {C fa : Addr} {fd : FuncData} {ps : List Str} {k kk : Nat} {r : Bool} {sp : Sp} {E : L2.St → XK} {ta : TE} {t : TA}
/-! ### an attribute is stored -/
end
end SW

set_option maxRecDepth 100000
/-! SW31: a call that borrows an owned instance. -/
namespace SW
open PySem PySem.Spec PyProof.Rows L2
def cut (S : Hp) (a : Addr) : Hp := fun b => if b = a then none else S b
section
variable {K : PySem.W.Frag} {S : Hp} {a C dx : Addr} {fv : List (Str × V)}
end
section
variable {X : Cx} {W : WX} {os : Os} {pos p p0 : Pos} {k kk : Nat} {fa : Addr} {fd : FuncData} {ps : List Str}
end
end SW

set_option maxRecDepth 100000
/-! SW32: chains of three comparisons; errors with a field: raise C(e), isinstance, err.f. -/
namespace SW
open PySem PySem.Spec PyProof.Rows L2
section
variable {X : Cx} {W : WX} {L : Lc} {os os1 os2 : Os} {e e1 e2 e3 e4 ec : Expr} {f f1 f2 f3 f4 : Rho → Out (D × Rho)} {pos p cp : Pos} {a b c d : Expr} {ta tb tc td : TE}
/-! ### a op1 b op2 c op3 d -/
/-! ### raise C(e) -/
/-- what is known of an error's class with a field -/
structure ErF (K : PySem.W.Frag) (mg : Str → Option Value) (c f : Str) (C fa : Addr) : Prop where
  g : mg c = some (.ref C)
  n : PySem.W.nsIn K mainGlobals c = some (some (.ref C))
  t : OexC K C
  i : PySem.W.findIn K (.ref C) "__init__" = some (some (.ref fa))
  ft : PySem.W.typeIn K (.ref fa) = some (.type "function")
  no : PySem.W.findIn K (.ref C) f = some none
end
end SW

set_option maxRecDepth 100000
/-! SW33: errors with a field: their __init__, isinstance, err.f. -/
namespace SW
open PySem PySem.Spec PyProof.Rows L2
section
variable {P : Program} {w : World} {K : PySem.W.Frag} {mg : Str → Option Value} {base : Heap}
end
section
variable {X : Cx} {W : WX} {os os1 os2 : Os} {e ec e2 : Expr} {f f2 : Rho → Out (D × Rho)} {pos p : Pos}
/-! ### err.f -/
end
end SW

set_option maxRecDepth 100000
/-! SW34: try: e, except C as n: y = n. -/
namespace SW
open PySem PySem.Spec PyProof.Rows L2
section
variable {X : Cx} {W : WX} {L : Lc} {os os1 : Os} {pos p cp : Pos} {x : Str} {C : Addr}
end
end SW

set_option maxRecDepth 100000
/-! SW35: equations for mirrors: statements in turn, dicts with pairs as keys, sorted pairs, enumerate. -/
namespace SW
open PySem PySem.Spec PyProof.Rows L2
/-! statements in turn -/
section
variable {a b : Rho → Out Fl} {ρ ρ1 : Rho} {d : D}
end
/-! dicts with pairs as keys -/
abbrev Pr := Nat × Nat
def pk (p : Pr) : List Int := [((p.1 : Nat) : Int), ((p.2 : Nat) : Int)]
section
variable {α : Type}
end
/-! sorted words, sorted pairs -/
/-! enumerate, indexes -/
/-! a loop over the first numbers -/
/-! an error's class with a field of its own, looked at by one truth -/
end SW

set_option maxRecDepth 100000
/-! SW36: the constants off the top's facts. -/
namespace SW
open PySem PySem.Spec PyProof.Rows L2
section
variable {fk : PySem.W.Frag → Bool} {fn : List He.FnD} {K : PySem.W.Frag} {h : Heap} {mg : Str → Option Value}
theorem konst_intB (X : K.In h) (G : h.Ns mainGlobals mg) {x : Str} {i : Int} (c : (He.Fa.int x i).ok K = true) : Konst K mg x (.int i) := by
  obtain ⟨t, e⟩ := He.int_ok X G c
  exact konst_int e
/-- a value of the top as data: no objects -/
def flatV : He.Dv → Option D
  | .non => some .non
  | .bl b => some (.bl b)
  | .int i => some (.int i)
  | .str x => some (.str x)
  | _ => none
theorem atL_flat {K : PySem.W.Frag} {S : Hp} : ∀ {vs : List He.Dv} {ds : List D}, vs.mapM flatV = some ds → AtL K S (vs.map (He.Dv.v K)) ds
  | [], ds, e => by
    simp only [List.mapM_nil, pure, Option.some.injEq] at e
    subst e
    exact .nil
  | v :: vs, ds, e => by
    simp only [List.mapM_cons, bind, Option.bind_eq_some_iff, pure, Option.some.injEq] at e
    obtain ⟨d, e1, ds', e2, rfl⟩ := e
    refine .cons ?_ (atL_flat e2)
    cases v with
    | non => cases e1; exact .non
    | bl b => cases e1; exact .bl b
    | int i => cases e1; exact .int i
    | str x => cases e1; exact .str x
    | _ => cases e1
theorem konst_tupB (X : K.In h) (G : h.Ns mainGlobals mg) {x : Str} {vs : List He.Dv} {ds : List D} (c : PySem.W.nsIn K mainGlobals x = some (some (.ref (He.ga K x)))) (hb : He.tupB K x vs = true) (hd : vs.mapM flatV = some ds) (hl : ds.length ≤ sizeLine) :
    Konst K mg x (.tup ds) := by
  unfold He.tupB at hb
  cases q : K.lookup (He.ga K x) with
  | none =>
    rw [q] at hb
    cases hb
  | some o =>
    obtain ⟨oc, od, dt, osl⟩ := o
    rw [q] at hb
    cases oc with
    | type cc =>
      cases dt with
      | seq its n =>
        obtain ⟨h1, h2⟩ := He.ba (show (decide (cc = "tuple") && (decide (its.size ≤ sizeLine) && He.relAll (vs.map (He.Dv.v K)) its.toList)) = true from hb)
        obtain ⟨h3, h4⟩ := He.ba h2
        exact konst_tup (PySem.W.mg_of X G c) q (congrArg Value.type (of_decide_eq_true h1)) rfl ⟨of_decide_eq_true h3, hl⟩ (He.relAll_ok h4) (atL_flat hd)
      | _ => cases hb
    | _ => cases dt <;> cases hb
end
/-- the same slots, said otherwise -/
theorem VSs.to {X : Cx} {W : WX} {L : Lc} {os o1 o2 : Os} {st : List Stmt} {g : Rho → Out Fl} (h : VSs X W L os st g o1) (e : o1 = o2 := by rfl) : VSs X W L os st g o2 := e ▸ h
end SW

set_option maxRecDepth 100000
/-! SW37: an owned list put together with another one: a new list; the owner keeps its own. -/
namespace SW
open PySem PySem.Spec PyProof.Rows L2
section
variable {X : Cx} {W : WX} {os os1 : Os} {e2 : Expr} {f2 : Rho → Out (D × Rho)} {pos p : Pos}
def eCatO (i : Nat) (f : Rho → Out (D × Rho)) : Rho → Out (D × Rho) := fun ρ => match ρ.getD i none with
  | some _ => (f ρ).bind fun q => match q.2.getD i none with
    | some d => (Out.of (catL d q.1)).bind fun c => .ok (c, q.2)
    | none => .stuck
  | none => .stuck
end
end SW

set_option maxRecDepth 100000
/-! SW38: x.insert(i, e) of an owned list. -/
namespace SW
open PySem PySem.Spec PyProof.Rows L2
section
variable {X : Cx}
end
end SW

set_option maxRecDepth 100000
/-! SW39: a look that gives tuples or a new list of them; a call whose turned argument is new, at any place. -/
namespace SW
open PySem PySem.Spec PyProof.Rows L2

mutual
/-- no list, no dict, no instance in it -/
def tokD : D → Bool
  | .non => true
  | .bl _ => true
  | .int _ => true
  | .str _ => true
  | .ty _ => true
  | .tup ds => tokL ds
  | _ => false
def tokL : List D → Bool
  | [] => true
  | d :: ds => tokD d && tokL ds
end
/-- no cell of a tuple is dropped -/
def NoTup (S : Hp) (O : Addr → Prop) : Prop := ∀ a vs, O a → (S a ≠ some (.tup vs) ∧ ∀ o, S a ≠ some (.frz o (.tup vs)))
section
variable {K : PySem.W.Frag} {S S2 : Hp} {O : Addr → Prop}
theorem sqT_drop {a : Addr} {vs : List V} (hn : NoTup S O) (h2 : ∀ a, ¬ O a → S2 a = S a) (h : SqT K S a vs) : SqT K S2 a vs := by
  rcases h with (h | ⟨o, h⟩) | h
  · exact .inl (.inl (by rw [h2 a fun z => (hn a vs z).1 h]; exact h))
  · exact .inl (.inr ⟨o, by rw [h2 a fun z => (hn a vs z).2 o h]; exact h⟩)
  · exact .inr h
mutual
theorem tok_drop (hn : NoTup S O) (h2 : ∀ a, ¬ O a → S2 a = S a) : ∀ {v : V} {d : D}, At K S v d → tokD d = true → At K S2 v d
  | _, _, .non, _ => .non
  | _, _, .bl b, _ => .bl b
  | _, _, .int i, _ => .int i
  | _, _, .str x, _ => .str x
  | _, _, .tup h z r, t => .tup (sqT_drop hn h2 h) z (tokL_drop hn h2 r (by unfold tokD at t; exact t))
  | _, _, .lst _ _ _, t => by unfold tokD at t; cases t
  | _, _, .dct _ _ _ _, t => by unfold tokD at t; cases t
  | _, _, .ins _ _ _ _ _, t => by unfold tokD at t; cases t
  | _, _, .exc0 _ _, t => by unfold tokD at t; cases t
  | _, _, .exc1 _ _ _ _, t => by unfold tokD at t; cases t
  | _, _, .scr _ _, t => by unfold tokD at t; cases t
  | _, _, .ty n h, _ => .ty n h
theorem tokL_drop (hn : NoTup S O) (h2 : ∀ a, ¬ O a → S2 a = S a) : ∀ {vs : List V} {ds : List D}, AtL K S vs ds → tokL ds = true → AtL K S2 vs ds
  | _, _, .nil, _ => .nil
  | _, _, .cons h r, t => by
    unfold tokL at t
    obtain ⟨t1, t2⟩ := Bool.and_eq_true_iff.mp t
    exact .cons (tok_drop hn h2 h t1) (tokL_drop hn h2 r t2)
end
end
section
variable {K : PySem.W.Frag} {S S' H H' S1 : Hp} {os : Os} {σ : Sg} {ρ : Rho}
theorem Rel.ownBody (r : Rel K S H os σ ρ) {a : Addr} (h : Own os σ a) : ∃ o d, H a = some o ∧ Body K S a o d := by
  obtain ⟨i, ho, hs⟩ := h
  have hl : i < ρ.length := by rw [← r.len]; exact (List.getElem?_eq_some_iff.mp hs).1
  have q := r.slot i _ _ hs (List.getElem?_eq_getElem hl)
  rw [ho] at q
  cases e : ρ[i] with
  | none => rw [e] at q; exact q.elim
  | some d =>
    rw [e] at q
    obtain ⟨b, eb, _, o, eh, bd⟩ := (show OwnAt K S H (.ref a) d from q)
    cases eb
    exact ⟨o, d, eh, bd⟩
theorem Look.noTup (lk : Look S H os σ S1) (r : Rel K S H os σ ρ) (e : Same S1 S') : NoTup S' (Own os σ) := fun a vs ho => by
  obtain ⟨o, d, eh, bd⟩ := r.ownBody ho
  have q := e a o ((lk.own a ho).trans eh)
  rw [q]
  cases bd <;> exact ⟨(fun z => by cases z), fun _ z => by cases z⟩
/-- behind a look: what was owned is owned again; what else stands, stands -/
theorem Look.backT (lk : Look S H os σ S1) (r : Rel K S H os σ ρ) (x : Ext (Own [] σ) S1 H S' H') : ∃ S2, (∀ a, ¬ Own os σ a → S2 a = S' a) ∧ (∀ a, Own os σ a → S2 a = none) ∧ Rel K S2 H' os σ ρ ∧ Stp os σ S H os σ S2 H' := by
  classical
  have h2 : ∀ a, ¬ Own os σ a → (fun a => if Own os σ a then none else S' a) a = S' a := fun a z => if_neg z
  have h3 : ∀ a, Own os σ a → (fun a => if Own os σ a then none else S' a) a = none := fun a z => if_pos z
  have s2 : Same S (fun a => if Own os σ a then none else S' a) := fun a o e => by
    have no : ¬ Own os σ a := fun z => by rw [(r.owned z).1] at e; cases e
    rw [h2 a no]
    exact x.s a o (lk.s a o e)
  have sh : Same (fun a => if Own os σ a then none else S' a) H' := fun a o e => by
    by_cases z : Own os σ a
    · rw [h3 a z] at e; cases e
    · rw [h2 a z] at e; exact x.sh a o e
  have keep : ∀ a o, Own os σ a → H a = some o → H' a = some o := fun a o z e => x.sh a o (x.s a o ((lk.own a z).trans e))
  refine ⟨_, h2, h3, ⟨sh, r.len, fun i v d e1 e2 => ?_, r.sep⟩, ⟨⟨s2, sh, fun a o e n no => ⟨?_, ?_⟩, x.there⟩, fun a q => .inl q⟩⟩
  · have q := r.slot i v d e1 e2
    cases ho : os.getD i false <;> rw [ho] at q <;> cases v <;> cases d <;> simp only [SlotAt] at q ⊢
    · exact q.mono s2
    · rename_i v d
      obtain ⟨a, ea, na, q⟩ := q
      subst ea
      have own : Own os σ a := ⟨i, ho, e1⟩
      obtain ⟨o, eh, bd⟩ := q
      exact ⟨a, rfl, h3 a own, o, keep a _ own eh, bd.mono s2⟩
  · exact (x.fr a o e ((lk.out a no).trans n) fun z => own_nil z).1
  · exact (h2 a no).trans (x.fr a o e ((lk.out a no).trans n) fun z => own_nil z).2
end
section
variable {X : Cx} {W : WX} {os os1 os2 : Os} {e : Expr} {es : List Expr} {f : Rho → Out (D × Rho)} {pos p : Pos}
def ePeekT (f : Rho → Out (D × Rho)) : Rho → Out (D × Rho) := fun ρ => (f ρ).bind fun p => if tokD p.1 = true then .ok (p.1, ρ) else .stuck
def ePeekL (f : Rho → Out (D × Rho)) : Rho → Out (D × Rho) := fun ρ => (f ρ).bind fun p => match p.1 with
  | .lst ds => if tokL ds = true then .ok (.lst ds, ρ) else .stuck
  | _ => .stuck
/-- an expression that turns nothing and gives a tuple without lists -/
theorem ve_peekT (h : VE X W [] e f os1 false) (hos : os1 = [] := by rfl) : VE X W os e (ePeekT f) os false := by
  subst hos
  obtain ⟨t, p, k⟩ := h
  refine ⟨t, p, fun S σ H ρ Q rel P => ?_⟩
  obtain ⟨S1, lk, rel1⟩ := freezeAll rel
  refine k S1 σ H ρ Q rel1 ?_
  unfold ePeekT at P
  cases h : f ρ with
  | exc c fs => rw [h] at P; exact fun S' H' cls dd x q => P S' H' cls dd (lk.exc x) q
  | stuck => rw [h] at P; exact P.elim
  | ok z =>
    obtain ⟨d, ρ'⟩ := z
    rw [h] at P
    have P : Post X W S H os σ os (RV X.K false) Q (if tokD d = true then .ok (d, ρ) else .stuck) := P
    split at P
    · rename_i hf
      intro v S' H' st _ hv
      obtain ⟨S2, h2, h3, rel2, st2⟩ := lk.backT rel st.ext
      exact P v S2 H' st2 rel2 (tok_drop (lk.noTup rel st.ext.s) h2 (show At X.K S' v d from hv) hf)
    · exact P.elim
/-- an expression that turns nothing and gives a new list of such -/
theorem ve_peekL (h : VE X W [] e f os1 true) (hos : os1 = [] := by rfl) : VE X W os e (ePeekL f) os true := by
  subst hos
  obtain ⟨t, p, k⟩ := h
  refine ⟨t, p, fun S σ H ρ Q rel P => ?_⟩
  obtain ⟨S1, lk, rel1⟩ := freezeAll rel
  refine k S1 σ H ρ Q rel1 ?_
  unfold ePeekL at P
  cases h : f ρ with
  | exc c fs => rw [h] at P; exact fun S' H' cls dd x q => P S' H' cls dd (lk.exc x) q
  | stuck => rw [h] at P; exact P.elim
  | ok z =>
    obtain ⟨d, ρ'⟩ := z
    rw [h] at P
    cases d with
    | lst ds =>
      have P : Post X W S H os σ os (RV X.K true) Q (if tokL ds = true then .ok (.lst ds, ρ) else .stuck) := P
      split at P
      · rename_i hf
        intro v S' H' st _ hv
        obtain ⟨S2, h2, h3, rel2, st2⟩ := lk.backT rel st.ext
        obtain ⟨⟨a, rfl, na, o, ea, bd⟩, fr⟩ := (show OwnAt X.K S' H' v (.lst ds) ∧ ∀ a, v = .ref a → H a = none from hv)
        have no : ¬ Own os σ a := fun z => by
          obtain ⟨o, d, eh, _⟩ := rel.ownBody z
          rw [fr a rfl] at eh; cases eh
        cases bd with
        | lst z r => exact P _ S2 H' st2 rel2 ⟨⟨a, rfl, (h2 a no).trans na, _, ea, .lst z (tokL_drop (lk.noTup rel st.ext.s) h2 r hf)⟩, fr⟩
      · exact P.elim
    | _ => exact P.elim
/-! a call whose turned argument, the k-th, is a new list or dict -/
def RLC (K : PySem.W.Frag) (n k : Nat) : RR (List D) (List V) := fun H S' H' vs ds => vs.length = n ∧ ds.length = n ∧ (∃ u du, vs[k]? = some u ∧ ds[k]? = some du ∧ OwnAt K S' H' u du ∧ ∀ a, u = .ref a → H a = none) ∧ ∀ j d, j ≠ k → ds[j]? = some d → ∃ v, vs[j]? = some v ∧ At K S' v d
theorem RLC.ok {K : PySem.W.Frag} {n k : Nat} : (RLC K n k).Ok := fun H H1 S' H' b d h q => by
  obtain ⟨q1, q2, ⟨u, du, q3, q4, q5, q6⟩, q7⟩ := q
  exact ⟨q1, q2, ⟨u, du, q3, q4, q5, fun a e => h a (q6 a e)⟩, q7⟩
end
end SW

set_option maxRecDepth 100000
/-! SW40: x[e] = a new list; x[y][z] = u: a store into a list within an owned list. -/
namespace SW
open PySem PySem.Spec PyProof.Rows L2

section
variable {X : Cx} {W : WX} {L : Lc} {os osN : Os} {e ie : Expr} {rest : List Stmt} {f fi : Rho → Out (D × Rho)} {g : Rho → Out Fl} {pos pos2 ps ps2 ps3 px px2 py pz pu : Pos}
end
end SW

set_option maxRecDepth 100000
/-! SW41: {k: v, ..}: a dict display whose keys are tuples. -/
namespace SW
open PySem PySem.Spec PyProof.Rows L2
section
variable {prog : Program} {w : World} {A : Around} {E : Value → Shared → Prop} {s : Shared} {K : Type} [DecidableEq K] {knd : HeapKind prog w K}
theorem wpAny_Dict_pairsO {env : Env} {keys : List (Option Expr)} {values : List Expr} {pos : Pos} {pairs : List (Sem Value × Sem Value)} {Q : Value → Shared → Prop} (hu : knd.room A)
    (hshape : (evalEachOpt keys env).zip ((evalEach values env).map fun v => do let x ← v; standAt pos; pure x) = pairs.map fun p => (some p.1, p.2)) (h0 : pairs ≠ []) (hlen : pairs.length ≤ 15)
    (h : wpAny (model prog w) A (evalPairs pairs) (fun vs s₁ => ∃ ps, CarriesH knd s₁.heap vs ps ∧ s₁.heap.DictOfH knd s.heap.objs.size [] ∧
      ∀ h' tk, h'.DictOfH knd s.heap.objs.size (storedAllH [] ps) → Heap.SameBut s.heap.objs.size s₁.heap h' → Q (.ref s.heap.objs.size) { s₁ with heap := h', toks := tk }) E
      { s with heap := s.heap.push { cls := .type "dict", data := .dict #[] } }) :
    wpAny (model prog w) A (eval (.Dict keys values pos) env) Q E s := by
  rw [arm_eval_Dict, hshape, dictDisplay_pairs pairs h0 (by omega)]
  exact wpAny_bind (wpAny_standAt (wpAny_bind (wpAny_subDictH (knd := knd) (Q := fun d s' => wpAny (model prog w) A (pure (Value.ref d)) Q E s') hu hlen
    (wpAny_mono h (fun vs s₁ h₁ => by obtain ⟨ps, hc, hm, hq⟩ := h₁; exact ⟨ps, hc, hm, fun h' tk a b => wpAny_pure (hq h' tk a b)⟩) fun _ _ e => e))))
end
def storeAllV (zs acc : XL) : XL := zs.foldl (fun a z => storeX a z.1 z.2.1 z.2.2) acc
theorem xr_allV : ∀ {zs : XL} {ys : List (NestedKey × Addr × Value)}, XR zs ys → ∀ {xs : XL} {xs' : List (NestedKey × Addr × Value)}, XR xs xs' → XR (storeAllV zs xs) (storedAllH xs' ys)
  | _, _, .nil, _, _, r => r
  | (k, b, v) :: zs, (k', b', u) :: ys, .cons h t, xs, xs', r => by
    obtain ⟨h1, h2, h3⟩ := h
    obtain rfl : k = k' := h1
    obtain rfl : b = b' := h2
    have r2 : XR (storeX xs k b v) (storedH xs' k b u) := r.store k b h3
    exact xr_allV t r2
theorem storeAllV_mem : ∀ {zs acc : XL} {p : NestedKey × Addr × V}, p ∈ storeAllV zs acc → (∃ z ∈ zs, p.1 = z.1) ∨ ∃ q ∈ acc, p.1 = q.1
  | [], acc, p, h => .inr ⟨p, h, rfl⟩
  | z :: zs, acc, p, h => by
    rcases storeAllV_mem (zs := zs) (acc := storeX acc z.1 z.2.1 z.2.2) h with ⟨y, hy, e⟩ | ⟨q, hq, e⟩
    · exact .inl ⟨y, List.mem_cons_of_mem _ hy, e⟩
    · rcases storeX_mem hq with ⟨e2, _⟩ | ⟨q2, hq2, e2, _⟩
      · exact .inl ⟨z, List.mem_cons_self, by rw [e, e2]⟩
      · exact .inr ⟨q2, hq2, by rw [e, ← e2]⟩
theorem xd_allV {K : PySem.W.Frag} {S : Hp} : ∀ {zs : XL} {l : List (NestedKey × D)}, XD K S zs l → (∀ z ∈ zs, keyT (keyB z.1) = some z.1) → ∀ {xs : XL} {ds : List (NestedKey × D)}, XD K S xs ds → (∀ p ∈ xs, keyT (keyB p.1) = some p.1) → XD K S (storeAllV zs xs) (putAll l ds) ∧ ∀ p ∈ storeAllV zs xs, keyT (keyB p.1) = some p.1
  | _, _, .nil, _, _, _, r, hk => ⟨r, hk⟩
  | z :: zs, q :: l, .cons h t, hz, xs, ds, r, hk => by
    obtain ⟨h1, h2, h3⟩ := h
    have r2 : XD K S (storeX xs z.1 z.2.1 z.2.2) (putD ds q.1 q.2) := by rw [h1]; exact XD.store r h2 h3
    exact xd_allV t (fun y hy => hz y (List.mem_cons_of_mem _ hy)) r2 (store_kk hk (hz z List.mem_cons_self))
abbrev KPs (K : PySem.W.Frag) (H : Hp) : List (V × V) → XL → Prop := Paired fun pr z => pr.1 = .ref z.2.1 ∧ pr.2 = z.2.2 ∧ KeyAt K H z.2.1 z.1
section
variable {X : Cx} {pins : List (Addr × Obj)} {σ : L2.St} {H : Hp} {s : Shared}
theorem carryH (I : Inv X pins σ H s) : ∀ {ps : List (V × V)} {ws : List (Value × Value)} {zs : XL}, VV ps ws → KPs X.K H ps zs → ∃ ys, CarriesH (nestedKind X.prog X.w) s.heap ws ys ∧ XR zs ys
  | [], _, _, .nil, .nil => ⟨[], True.intro, .nil⟩
  | p :: ps, q :: ws, z :: zs, .cons h t, .cons g u => by
    obtain ⟨ys, c, x⟩ := carryH I t u
    obtain ⟨h1, h2⟩ := h
    obtain ⟨g1, g2, g3⟩ := g
    rw [g1] at h1
    rw [g2] at h2
    have h1 : q.1 = Value.ref z.2.1 := h1
    exact ⟨(z.1, z.2.1, q.2) :: ys, ⟨h1, rfl, g3.is I, c⟩, .cons ⟨rfl, rfl, h2⟩ x⟩
def tDispT (K : PySem.W.Frag) (trs : List (TE × TE)) : TE := fun σ H Q => ∀ p y0, H p = none → NewX p [] y0 → tPairs trs σ (upd H p (DT p y0)) fun ps H2 => H2 p = some (DT p y0) ∧ ∃ zs : XL, KPs K H2 ps zs ∧ ∀ y, NewX p (storeAllV zs []) y → Q (.ref p) (upd H2 p (DT p y))
theorem pe_dispT {pos : Pos} {keys : List (Option Expr)} {values : List Expr} {trs : List (TE × TE)} (hu : X.A.units + 64 < cLine) (h : PPs X pos keys values trs) (hall : keys.all (·.isSome) = true) (hl : keys.length = values.length) (h0 : keys ≠ [])
    (h15 : keys.length ≤ 15) : PE X (.Dict keys values pos) (tDispT X.K trs) := by
  refine ⟨fun pins s σ H Q I q => ?_⟩
  have hn := I.hok.fresh (Nat.le_refl s.heap.objs.size)
  have ho : (s.heap.push { cls := .type "dict", data := .dict #[] }).get? s.heap.objs.size = some { cls := .type "dict", data := .dict #[] } := Heap.get?_push_size _ rfl
  have I1 := I.laid (a := s.heap.objs.size) (o := DT s.heap.objs.size ⟨{ cls := .type "dict", data := .dict #[] }, []⟩) (t' := s.toks) (fun _ _ q => Heap.get?_push_of_some _ q) (Nat.le_refl _) (dt_ok ho)
  have n0 : NewX s.heap.objs.size [] ⟨{ cls := .type "dict", data := .dict #[] }, []⟩ := ⟨rfl, beq_eq_false_iff_ne.mpr (Ne.symm (Nat.ne_of_lt I.big)), ⟨rfl, rfl, rfl⟩, List.nodup_nil, #[], 0, rfl, .nil⟩
  have hpl := pairTrees_length keys values X.env pos hall hl
  refine wpAny_Dict_pairsO (knd := nestedKind X.prog X.w) (pairs := pairTrees keys values X.env pos) (by show X.A.units + 8 < cLine; omega) (zip_pairTrees keys values X.env pos hall hl) (fun e => h0 (List.length_eq_zero_iff.mp (by rw [← hpl, e]; rfl))) (by rw [hpl]; exact h15) (thn (h.run pins _ σ _ _ I1 (q _ _ hn n0)) fun ws s2 ⟨ps, H2, I2, rel, e, zs, hz, q2⟩ => ?_)
  obtain ⟨ys, hc, xr⟩ := carryH I2 rel hz
  obtain ⟨t0, r0⟩ := n0.tok (K := X.K) (S := fun _ => none) (ds := []) .nil fun p hp => by cases hp
  have g : DGood X.K H2 s.heap.objs.size ⟨{ cls := .type "dict", data := .dict #[] }, []⟩ := good_of e t0 (Nat.zero_le _) r0 (fun a o z => by cases z)
  obtain ⟨ys0, r1, dd, _, _⟩ := g.dict I2
  cases r1
  refine ⟨ys, hc, dd, fun h' tk dd' hs => ?_⟩
  have hkf : ∀ z ∈ zs, KFree z.1 := by
    clear q2 xr hc
    intro z hz2
    have : ∀ {ps : List (V × V)} {zs : XL}, KPs X.K H2 ps zs → ∀ z ∈ zs, KFree z.1 := by
      intro ps zs h
      induction h with
      | nil => intro z hz; cases hz
      | cons h t ih =>
        intro z hz
        rcases List.mem_cons.mp hz with rfl | hz
        · exact h.2.2.free
        · exact ih z hz
    exact this hz z hz2
  obtain ⟨y, ny, hoy⟩ := new_x (X := X) g.sys dd' (xr_allV xr .nil) fun p hp => by
    rcases storeAllV_mem hp with ⟨z, hz2, e2⟩ | ⟨_, hq, _⟩
    · rw [e2]; exact hkf z hz2
    · cases hq
  exact ⟨.ref s.heap.objs.size, _, d_write I2 (by rw [e]; exact True.intro) hs ⟨_, hoy⟩ (dt_ok hoy), rfl, q2 y ny⟩
end
/-! the judgement -/
def flatP : List (V × V) → List V
  | [] => []
  | p :: r => p.1 :: p.2 :: flatP r
def dispD : List D → Option (List (NestedKey × D))
  | [] => some []
  | [_] => none
  | k :: v :: r => match keyT k, dispD r with
    | some kk, some l => some ((kk, v) :: l)
    | _, _ => none
theorem disp_all {K : PySem.W.Frag} {S H : Hp} (sub : Same S H) : ∀ {ps : List (V × V)} {ds : List D} {l : List (NestedKey × D)}, AtL K S (flatP ps) ds → dispD ds = some l → ∃ zs, KPs K H ps zs ∧ XD K S zs l ∧ (∀ z ∈ zs, keyT (keyB z.1) = some z.1) ∧ zs.length = ps.length
  | [], _, _, .nil, h => by cases h; exact ⟨[], .nil, .nil, (fun z hz => by cases hz), rfl⟩
  | p :: ps, k :: v :: ds, l, .cons h1 (.cons h2 t), h => by
    unfold dispD at h
    split at h
    · rename_i kk l' e1 e2
      cases h
      obtain ⟨zs, g1, g2, g3, g4⟩ := disp_all sub t e2
      obtain ⟨b, eb, hb⟩ := at_key h1 e1
      refine ⟨(kk, b, p.2) :: zs, .cons ⟨eb, rfl, S, _, sub, hb, keyT_back e1⟩ g1, .cons ⟨rfl, hb, h2⟩ g2, fun z hz => ?_, by rw [List.length_cons, List.length_cons, g4]⟩
      rcases List.mem_cons.mp hz with rfl | hz
      · exact keyT_back e1
      · exact g3 z hz
    · cases h
def RP (K : PySem.W.Frag) (n : Nat) : RR (List D) (List (V × V)) := fun _ S' _ ps ds => AtL K S' (flatP ps) ds ∧ ps.length = n
theorem RP.ok {K : PySem.W.Frag} {n : Nat} : (RP K n).Ok := fun _ _ _ _ _ _ _ q => q
section
variable {X : Cx} {W : WX} {os os1 os2 os3 : Os} {pos : Pos} {keys : List (Option Expr)} {values : List Expr} {k v : Expr} {f1 f2 : Rho → Out (D × Rho)} {g : Rho → Out (List D × Rho)}
def VP (X : Cx) (W : WX) (pos : Pos) (os : Os) (keys : List (Option Expr)) (values : List Expr) (g : Rho → Out (List D × Rho)) (os' : Os) : Prop :=
  ∃ trs, PPs X pos keys values trs ∧ ∀ S σ H ρ Q, Rel X.K S H os σ ρ → Post X W S H os σ os' (RP X.K keys.length) Q (g ρ) → tPairs trs σ H Q
theorem vp_nil : VP X W pos os [] [] aNil os := ⟨_, pps_nil, fun S σ H ρ Q rel P => P.fin (os' := os) rel ⟨.nil, rfl⟩⟩
theorem vp_cons (ha : VE X W os k f1 os1 false) (hb : VE X W os1 v f2 os2 false) (hc : VP X W pos os2 keys values g os3) : VP X W pos os (some k :: keys) (v :: values) (aCons f1 (aCons f2 g)) os3 := by
  obtain ⟨t1, p1, k1⟩ := ha
  obtain ⟨t2, p2, k2⟩ := hb
  obtain ⟨trs, p3, k3⟩ := hc
  refine ⟨_, pps_cons p1 p2 p3, fun S σ H ρ Q rel P => ?_⟩
  refine k1 S σ H ρ _ rel (Post.seq P (fun z => z) (fun c fs p => p) fun d ρ1 x S1 H1 st1 rel1 q1 P1 => ?_)
  have P1 : Post X W S1 H1 os1 σ os3 (RP X.K (some k :: keys).length) Q ((aCons f2 g ρ1).bind fun q => .ok (d :: q.1, q.2)) := P1.step RP.ok st1
  have P1 : Post X W S1 H1 os1 σ os3 (RP X.K (some k :: keys).length) Q ((f2 ρ1).bind fun p => (g p.2).bind fun q => .ok (d :: p.1 :: q.1, q.2)) := by
    unfold aCons at P1
    cases e : f2 ρ1 with
    | ok z =>
      rw [e] at P1
      rw [bind_ok] at P1 ⊢
      cases e2 : g z.2 with
      | ok y => rw [e2] at P1; exact P1
      | exc c fs => rw [e2] at P1; exact P1
      | stuck => rw [e2] at P1; exact P1
    | exc c fs => rw [e] at P1; exact P1
    | stuck => rw [e] at P1; exact P1
  refine k2 S1 σ H1 ρ1 _ rel1 (Post.seq P1 (fun z => z) (fun c fs p => p) fun d2 ρ2 y S2 H2 st2 rel2 q2 P2 => ?_)
  have P2 : Post X W S2 H2 os2 σ os3 (RP X.K (some k :: keys).length) Q ((g ρ2).bind fun q => .ok (d :: d2 :: q.1, q.2)) := P2.step RP.ok st2
  refine k3 S2 σ H2 ρ2 _ rel2 (Post.seq P2 (fun z => z) (fun c fs p => p) fun ds ρ3 ps S3 H3 st3 rel3 q3 P3 => ?_)
  obtain ⟨q3, l3⟩ := q3
  have q1 : At X.K S1 x d := q1
  have q2 : At X.K S2 y d2 := q2
  exact (P3.step RP.ok st3).fin (os' := os3) rel3 ⟨.cons ((q1.mono st2.ext.s).mono st3.ext.s) (.cons (q2.mono st3.ext.s) q3), by rw [List.length_cons, List.length_cons, l3]⟩
def eDisp (g : Rho → Out (List D × Rho)) : Rho → Out (D × Rho) := fun ρ => (g ρ).bind fun q => match dispD q.1 with
  | some l => .ok (.dct (putAll l []), q.2)
  | none => .stuck
theorem ve_disp (hu : X.A.units + 64 < cLine) (h : VP X W pos os keys values g os1) (hall : keys.all (·.isSome) = true := by rfl) (hl : keys.length = values.length := by rfl) (h0 : keys ≠ [] := by exact List.cons_ne_nil _ _) (h15 : keys.length ≤ 15 := by decide) :
    VE X W os (.Dict keys values pos) (eDisp g) os1 true := by
  obtain ⟨trs, pp, kp⟩ := h
  refine ⟨_, pe_dispT hu pp hall hl h0 h15, fun S σ H ρ Q rel P p y0 hp n0 => ?_⟩
  have sp : S p = none := rel.sub.free hp
  have np : ¬ Own os σ p := fun z => by
    obtain ⟨o, d, eh, _⟩ := rel.ownBody z
    rw [hp] at eh; cases eh
  refine kp S σ _ ρ _ (rel.newO hp) ?_
  unfold eDisp at P
  have x0 : Ext (Own os σ) S H S (upd H p (DT p y0)) := (Ext.newO rel.sub hp)
  cases e : g ρ with
  | stuck => rw [e] at P; exact P.elim
  | exc c fs =>
    rw [e] at P
    exact fun S' H' cls dd x q => P S' H' cls dd (x0.trans x fun c hc => .inl hc) q
  | ok z =>
    obtain ⟨ds, ρ1⟩ := z
    rw [e, bind_ok] at P
    dsimp only at P
    intro ps S1 H1 st1 r1 q1
    obtain ⟨q1, l1⟩ := q1
    cases hd : dispD ds with
    | none => rw [hd] at P; exact P.elim
    | some l =>
      rw [hd] at P
      dsimp only at P
      obtain ⟨h1p, s1p⟩ := st1.ext.fr p _ upd_same sp np
      obtain ⟨zs, g1, g2, g3, g4⟩ := disp_all r1.sub q1 hd
      refine ⟨h1p, zs, g1, fun y ny => ?_⟩
      obtain ⟨x1, x2⟩ := xd_allV g2 g3 (xs := []) (ds := []) .nil (fun p hp => by cases hp)
      obtain ⟨t, r⟩ := ny.tok x1 x2
      have hz : (putAll l []).length ≤ sizeLine := by
        have h1 := putAll_len l []
        have h2 : zs.length = l.length := Paired.length g2
        refine Nat.le_trans h1 (Nat.le_trans ?_ (sz1000 (Nat.le_refl _)))
        rw [List.length_nil]
        omega
      have no1 : ¬ Own os1 σ p := fun z => by
        rcases st1.own p z with q | q
        · exact np q
        · rw [upd_same] at q; cases q
      have xx : Ext (fun b => b = p) S1 H1 S1 (upd H1 p (DT p y)) := by
        refine ⟨Same.refl _, fun b o e => ?_, fun b o e n no => ⟨by rw [upd_ne no]; exact e, n⟩, fun b e => ?_⟩
        · have hb : b ≠ p := fun z => by rw [z, s1p] at e; cases e
          rw [upd_ne hb]; exact r1.sub b o e
        · by_cases hb : b = p
          · subst hb; rw [upd_same] at e; cases e
          · rw [upd_ne hb] at e; exact e
      have r2 := r1.grow xx fun a ha e => no1 (by rw [← e]; exact ha)
      refine P (.ref p) S1 _ ⟨⟨st1.ext.s, xx.sh, fun b o e n no => ?_, fun b e => ?_⟩, fun b q => ?_⟩ r2 ⟨.mkX s1p upd_same t hz r, fun a ea => by cases ea; exact hp⟩
      · have hb : b ≠ p := fun z => by rw [z, hp] at e; cases e
        obtain ⟨w1, w2⟩ := st1.ext.fr b o (by rw [upd_ne hb]; exact e) n no
        exact ⟨by rw [upd_ne hb]; exact w1, w2⟩
      · have hb : b ≠ p := fun z => by rw [z, upd_same] at e; cases e
        rw [upd_ne hb] at e
        have := st1.ext.there b e
        rw [upd_ne hb] at this
        exact this
      · rcases st1.own b q with z | z
        · exact .inl z
        · have hb : b ≠ p := fun w => by rw [w, upd_same] at z; cases z
          rw [upd_ne hb] at z
          exact .inr z
end
end SW

set_option maxRecDepth 100000
/-! SW42: x = [..] read off what is owned, as a look. -/
namespace SW
open PySem PySem.Spec PyProof.Rows L2
section
variable {X : Cx} {W : WX} {L : Lc} {os os2 : Os} {f : Rho → Out (D × Rho)}
variable {tg iter elt : Expr} {ifs : List Expr} {scope : Scope} {own : List (Str × Nat)} {fi : Rho → Out (List D × Rho)} {b : D → Rho → Option Rho} {ch : List Nat} {tt : Rho → Out (Bool × Rho)} {fe : Rho → Out (D × Rho)} {pos : Pos}
end
end SW

set_option maxRecDepth 100000
/-! SW43: defs that turn their first two parameters. -/
namespace SW
open PySem PySem.Spec PyProof.Rows L2
abbrev os2 : Os := [true, true]
def m2 (ρ : Rho) : D × D := ((ρ.getD 0 none).getD .non, (ρ.getD 1 none).getD .non)
section
variable {P : Program} {w : World} {K : PySem.W.Frag} {mg : Str → Option Value} {base : Heap}
end
section
variable {X : Cx} {W : WX} {os : Os} {pos p : Pos}
end
end SW

set_option maxRecDepth 100000
set_option maxHeartbeats 2000000
/-! SW44: enumerate of a tuple. -/
namespace SW
open PySem PySem.Spec PyProof.Rows L2

section
variable {v : Value} {o : Obj} {B0 : Heap → Prop}
end
section
variable {X : Cx} {W : WX} {os os1 : Os} {e : Expr} {p pos : Pos}
end
end SW

set_option maxRecDepth 100000
/-! SW45: try: tests and calls, nothing stored; except C as n: y = n. -/
namespace SW
open PySem PySem.Spec PyProof.Rows L2
def RTr : RR D V := fun _ _ _ _ _ => True
section
variable {X : Cx} {W : WX} {os : Os} {pos : Pos} {e c : Expr} {f g : Rho → Out (D × Rho)} {gc : Rho → Out (Bool × Rho)} {a b : List Stmt}
theorem RTr.ok : RTr.Ok := fun _ _ _ _ _ _ _ q => q
end
section
variable {X : Cx} {W : WX} {L : Lc} {os : Os} {pos : Pos}
end
end SW

set_option maxRecDepth 100000
/-! SW46: an owned name compared with what a call that turns another one tells: the name owns its own still. -/
namespace SW
open PySem PySem.Spec PyProof.Rows L2
section
variable {X : Cx} {W : WX} {os os1 : Os} {e2 : Expr} {f2 : Rho → Out (D × Rho)} {pos p : Pos}
end
end SW

set_option maxRecDepth 100000
/-! SW47: dict(a dict), its keys' hashes apart. -/
namespace SW
open PySem PySem.Spec PyProof.Rows L2

/-- the lanes of a tuple's hash, as natural numbers -/
def laneN (acc h : Nat) : Nat :=
  let b := (acc + h * 14029467366897019727) % 18446744073709551616
  (((b * 2147483648) % 18446744073709551616 + b / 8589934592) * 11400714785074694791) % 18446744073709551616
def lanesN (l : List Nat) : Nat := l.foldl laneN 2870177450012600261
def lettersN : List NestedKey → Option (List Nat)
  | [] => some []
  | .num i :: ks => if 0 ≤ i ∧ i < 1000 then (lettersN ks).map (i.toNat :: ·) else none
  | _ :: _ => none
def wordN : NestedKey → Option (List Nat)
  | .tup ks => lettersN ks
  | _ => none
/-- words whose hashes are apart -/
def endN (l : List Nat) : Nat := (lanesN l + (l.length ^^^ (2870177450012600261 ^^^ 3527539))) % 18446744073709551616
def apartN : List NestedKey → Option (List Nat)
  | [] => some []
  | k :: ks => match wordN k, apartN ks with
    | some w, some l => if endN w ∈ l ∨ endN w = 18446744073709551615 then none else some (endN w :: l)
    | _, _ => none
theorem hash_small {i : Int} (h0 : 0 ≤ i) (h1 : i < 1000) : hashInt i = i := by
  obtain ⟨n, rfl⟩ := Int.eq_ofNat_of_zero_le h0
  have hn : n < 1000 := by omega
  have key : ∀ n : Nat, n < 1000 → hashInt ((n : Nat) : Int) = ((n : Nat) : Int) := by decide +kernel
  exact key n hn
theorem hashes_letters {w : World} : ∀ {ks : List NestedKey} {l : List Nat}, lettersN ks = some l → NestedKey.hashes w ks = l.map fun n : Nat => ((n : Nat) : Int)
  | [], l, h => by cases h; rfl
  | .num i :: ks, l, h => by
    unfold lettersN at h
    split at h
    · rename_i hi
      cases e : lettersN ks with
      | none => rw [e] at h; cases h
      | some l' =>
        rw [e] at h
        cases h
        have ih := hashes_letters (w := w) e
        show hashInt i :: NestedKey.hashes w ks = _
        rw [ih, hash_small hi.1 hi.2, List.map_cons, Int.toNat_of_nonneg hi.1]
    · cases h
  | .none :: _, _, h => by cases h
  | .text _ :: _, _, h => by cases h
  | .tup _ :: _, _, h => by cases h
def closeN (acc : Nat) : Int := if acc == 2 ^ 64 - 1 then 1546275796 else if acc < 2 ^ 63 then ((acc : Nat) : Int) else ((acc : Nat) : Int) - ((2 ^ 64 : Nat) : Int)
theorem lane_fold : ∀ (l : List Nat) (acc : Nat), (∀ x ∈ l, x < 1000) → (l.map fun n : Nat => ((n : Nat) : Int)).foldl (fun (acc : Nat) (h : Int) =>
    ((((acc + (h % ((2 ^ 64 : Nat) : Int)).toNat * 14029467366897019727) % 2 ^ 64 * 2 ^ 31) % 2 ^ 64 + (acc + (h % ((2 ^ 64 : Nat) : Int)).toNat * 14029467366897019727) % 2 ^ 64 / 2 ^ 33) * 11400714785074694791) % 2 ^ 64) acc = l.foldl laneN acc
  | [], _, _ => rfl
  | x :: l, acc, h => by
    rw [List.map_cons, List.foldl_cons, List.foldl_cons]
    have hx := h x (by simp)
    have e : (((x : Nat) : Int) % ((2 ^ 64 : Nat) : Int)).toNat = x := by
      rw [Int.emod_eq_of_lt (by omega) (by
        have : ((2 ^ 64 : Nat) : Int) = 18446744073709551616 := by decide
        omega), Int.toNat_natCast]
    rw [e]
    exact lane_fold l _ fun y hy => h y (List.mem_cons_of_mem _ hy)
theorem letters_lt : ∀ {ks : List NestedKey} {l : List Nat}, lettersN ks = some l → ∀ x ∈ l, x < 1000
  | [], l, h => by cases h; simp
  | .num i :: ks, l, h => by
    unfold lettersN at h
    split at h
    · rename_i hi
      cases e : lettersN ks with
      | none => rw [e] at h; cases h
      | some l' =>
        rw [e] at h
        cases h
        intro x hx
        rcases List.mem_cons.mp hx with rfl | hx
        · omega
        · exact letters_lt e x hx
    · cases h
  | .none :: _, _, h => by cases h
  | .text _ :: _, _, h => by cases h
  | .tup _ :: _, _, h => by cases h
theorem hash_word {w : World} {k : NestedKey} {l : List Nat} (h : wordN k = some l) : NestedKey.hash w k = reduceHash (closeN (endN l)) := by
  cases k with
  | tup ks =>
    have e := hashes_letters (w := w) (show lettersN ks = some l from h)
    unfold NestedKey.hash
    rw [e]
    congr 1
    unfold Builtin.Tuple.tupleHashOf
    dsimp only
    rw [lane_fold l _ (letters_lt (show lettersN ks = some l from h)), List.length_map]
    rfl
  | _ => cases h
theorem end_lt (l : List Nat) : endN l < 18446744073709551616 := Nat.mod_lt _ (by decide)
theorem close_red {a : Nat} (h : a < 18446744073709551616) (n : a ≠ 18446744073709551615) : reduceHash (closeN a) = if a < 9223372036854775808 then ((a : Nat) : Int) else ((a : Nat) : Int) - 18446744073709551616 := by
  have e1 : closeN a = if a < 9223372036854775808 then ((a : Nat) : Int) else ((a : Nat) : Int) - 18446744073709551616 := by
    unfold closeN
    rw [show (2 : Nat) ^ 64 - 1 = 18446744073709551615 from rfl, show (2 : Nat) ^ 63 = 9223372036854775808 from rfl, show ((2 ^ 64 : Nat) : Int) = 18446744073709551616 from rfl]
    rw [if_neg (by simpa using n)]
  rw [e1]
  unfold reduceHash
  rw [show (2 : Int) ^ 63 = 9223372036854775808 from rfl]
  split
  · rw [if_pos (by simp <;> omega), if_neg (by simp <;> omega)]
  · rw [if_pos (by simp <;> omega), if_neg (by simp <;> omega)]
theorem close_inj {a b : Nat} (ha : a < 18446744073709551616) (hb : b < 18446744073709551616) (na : a ≠ 18446744073709551615) (nb : b ≠ 18446744073709551615) (h : reduceHash (closeN a) = reduceHash (closeN b)) : a = b := by
  rw [close_red ha na, close_red hb nb] at h
  split at h <;> split at h <;> omega
theorem apart_hash {w : World} : ∀ {ks : List NestedKey} {l : List Nat}, apartN ks = some l → (ks.map (NestedKey.hash w)).Nodup ∧ (∀ k ∈ ks, ∃ n ∈ l, n < 18446744073709551616 ∧ n ≠ 18446744073709551615 ∧ NestedKey.hash w k = reduceHash (closeN n)) ∧ ∀ n ∈ l, n < 18446744073709551616 ∧ n ≠ 18446744073709551615
  | [], l, h => by cases h; exact ⟨List.nodup_nil, by simp, by simp⟩
  | k :: ks, l, h => by
    unfold apartN at h
    split at h
    · rename_i u l' e1 e2
      split at h
      · cases h
      · rename_i hn
        cases h
        obtain ⟨i1, i2, i3⟩ := apart_hash (w := w) e2
        have hk := hash_word (w := w) e1
        have n1 : endN u ∉ l' := fun z => hn (.inl z)
        have n2 : endN u ≠ 18446744073709551615 := fun z => hn (.inr z)
        refine ⟨?_, ?_, ?_⟩
        · rw [List.map_cons]
          refine List.nodup_cons.mpr ⟨fun z => ?_, i1⟩
          obtain ⟨q, hq, e⟩ := List.mem_map.mp z
          obtain ⟨n, hn', b1, b2, e3⟩ := i2 q hq
          rw [hk, e3] at e
          have := close_inj b1 (end_lt u) b2 n2 e
          exact n1 (this ▸ hn')
        · intro q hq
          rcases List.mem_cons.mp hq with rfl | hq
          · exact ⟨endN u, by simp, end_lt u, n2, hk⟩
          · obtain ⟨n, hn', b⟩ := i2 q hq
            exact ⟨n, List.mem_cons_of_mem _ hn', b⟩
        · intro n hn'
          rcases List.mem_cons.mp hn' with rfl | hn'
          · exact ⟨end_lt u, n2⟩
          · exact i3 n hn'
    · cases h
section
variable {X : Cx}
/-- a new dict, filled from what is handed in -/
theorem dict_filled {prog : Program} {w : World} {A : Around} {s : Shared} {a : Addr} {E : Value → Shared → Prop} {Q : Value → Shared → Prop}
    (fill : wpAny (model prog w) A.in1.in1 (Builtin.Dict.updateFrom "dict.__init__" s.heap.objs.size (.ref a) [] .none)
        (fun f s2 => match f with
          | .done r => wants (fun v s3 => v = .none ∧ Q (.ref s.heap.objs.size) s3) E (.ok r) s2
          | .again c => c.quiet = true ∧ codeAny (model prog w) A.in1 c (wants (fun v s3 => v = .none ∧ Q (.ref s.heap.objs.size) s3) E) s2)
        (fun x s2 => wants (fun v s3 => v = .none ∧ Q (.ref s.heap.objs.size) s3) E (.error x) s2) { s with heap := s.heap.push { cls := .type "dict", data := .dict #[] } }) :
    wpAny (model prog w) A (call (.type "dict") [.ref a]) Q E s := by
  have ty : Shared.TypeIs { s with heap := s.heap.push { cls := .type "dict", data := .dict #[] } } (.ref s.heap.objs.size) "dict" := ⟨_, Heap.get?_push_size _ rfl, rfl⟩
  apply callType_codes (Q₁ := fun o t => o = .ref s.heap.objs.size ∧ t = { s with heap := s.heap.push { cls := .type "dict", data := .dict #[] } }) F.kt_called_dict (F.kt_typeCall_dict_1 _) F.entry_dict_init
  · exact kt_code_dict_new _ ⟨rfl, rfl⟩
  · rintro o t ⟨rfl, rfl⟩
    refine ⟨ty, F.args_dict_init_2 _ _, ?_⟩
    unfold Builtin.«dict.__init__» Builtin.Dict.selfAndRest
    apply wpAny_bind
    apply wpAny_bind
    apply wpAny_notOrdered_dict ty
    apply wpAny_pure
    exact fill
theorem keyAt_free {K : PySem.W.Frag} {H : Hp} {b : Addr} {k : NestedKey} (h : KeyAt K H b k) : KFree k := by
  obtain ⟨S, d, _, _, e⟩ := h
  obtain ⟨ds, _, e1, _⟩ := keyT_some e
  exact keyD_free e1
theorem call_dictT (hcalm : X.calm = true) (hu : X.A.units + 64 < cLine) : CallR X (.type "dict") (fun vs H Q => ∃ a x, vs = [.ref a] ∧ DGood X.K H a x ∧ (x.xs.map fun p => NestedKey.hash X.w p.1).Nodup ∧ ∀ p y, H p = none → NewX p x.xs y → Q (.ref p) (upd H p (DT p y))) := by
  intro pins s σ H xs us Q I r h
  obtain ⟨a, x, rfl, g, nd, q⟩ := h
  obtain ⟨u, rfl, rx⟩ := vals1 r
  obtain rfl : u = Value.ref a := rx
  obtain ⟨ys, xr, dd, z, ho⟩ := g.dict I
  have keys_eq : ∀ {l : XL} {m : List (NestedKey × Addr × Value)}, XR l m → l.map (·.1) = m.map (·.1) := fun {l m} r => by
    induction r with
    | nil => rfl
    | cons h t ih => rw [List.map_cons, List.map_cons, ih, h.1]
  have hkeys : x.xs.map (·.1) = ys.map (·.1) := keys_eq xr
  have hnew := I.hok.fresh (Nat.le_refl s.heap.objs.size)
  have ne : s.heap.objs.size ≠ a := fun z => Nat.lt_irrefl _ (z ▸ Heap.lt_size ho)
  have push : ∀ b o, s.heap.get? b = some o → (s.heap.push { cls := .type "dict", data := .dict #[] }).get? b = some o := fun b o e => Heap.get?_push_of_some _ e
  have dd2 : (s.heap.push { cls := .type "dict", data := .dict #[] }).DictOfH (nestedKind X.prog X.w) a ys := by
    obtain ⟨o, es, ep, h1, h2, h3, h4, h5, h6⟩ := dd
    exact ⟨o, es, ep, push _ _ h1, h2, h3, h4, fun y hy => nestedKind_stays.stays (fun b o _ _ e _ => push b o e) (h5 y hy), h6⟩
  have tup : ∀ y ∈ ys, Shared.TypeIs { s with heap := s.heap.push { cls := .type "dict", data := .dict #[] } } (.ref y.2.1) "tuple" := fun y hy => by
    obtain ⟨o, es, ep, h1, h2, h3, h4, h5, h6⟩ := dd2
    exact nestedKind_stays.tuple (s := { s with heap := s.heap.push { cls := .type "dict", data := .dict #[] } }) (h5 y hy)
  have nd2 : (ys.map fun y => (nestedKind X.prog X.w).hash y.1).Nodup := by
    have e : (ys.map fun y => (nestedKind X.prog X.w).hash y.1) = x.xs.map fun p => NestedKey.hash X.w p.1 := by
      have e1 : (ys.map fun y => (nestedKind X.prog X.w).hash y.1) = (ys.map (·.1)).map (NestedKey.hash X.w) := by rw [List.map_map]; rfl
      rw [e1, ← hkeys, List.map_map]
      rfl
    rw [e]
    exact nd
  refine dict_filled ?_
  refine updateFrom_dictH (A := X.A.in1) (knd := nestedKind X.prog X.w) (kvs := []) (more := ys) .none (by show X.A.units + 1 + 1 + 8 < cLine; omega) ne g.sys (Heap.DictOfH.new s.heap) dd2 (.inr ⟨tup, nd2⟩) (by simpa using z) fun h' d1 d2 sb => ?_
  rw [storedAllH_nil_of_nodup ys d2.nodup] at d1
  obtain ⟨y, hn, hy⟩ := new_x (X := X) (a := s.heap.objs.size) (beq_eq_false_iff_ne.mpr (Ne.symm (Nat.ne_of_lt I.big))) d1 xr (fun p hp => keyAt_free (g.ks p hp))
  exact ⟨rfl, .ref s.heap.objs.size, _, I.laid (a := s.heap.objs.size) (o := DT s.heap.objs.size y) (t' := s.toks) (fun b o e => (sb.2 b (Nat.ne_of_lt (Heap.lt_size e))).trans (push b o e)) (Nat.le_refl _) (dt_ok hy), rfl, q _ y hnew hn⟩
variable {W : WX} {os os1 : Os} {e : Expr} {f : Rho → Out (D × Rho)} {pos p : Pos}
def copyD : D → Option D
  | .dct kvs => if (apartN (kvs.map (·.1))).isSome then some (.dct kvs) else none
  | _ => none
def eDictD (f : Rho → Out (D × Rho)) : Rho → Out (D × Rho) := fun ρ => (f ρ).bind fun p => (Out.of (copyD p.1)).bind fun c => .ok (c, p.2)
theorem ve_dictD (hu : X.A.units + 64 < cLine) (ha : VE X W os e f os1 false) (hm : X.mg "dict" = none) (hc : X.calm = true := by rfl)
    (hg : Gl X "dict" := by rfl) (he1 : starEach [e] X.env = (false, eval e X.env) :: starEach [] X.env := by rfl) (hpl : (backTo pos (starEach [] X.env)).any (·.1) = false := by rfl) :
    VE X W os (.Call (.Name "dict" p) [e] [] pos) (eDictD f) os1 true := by
  obtain ⟨ta, pa, ka⟩ := ha
  refine ⟨_, pe_callTy (call_dictT hc hu) hg hm (by decide +kernel) (pa_cons pa pa_nil he1) (by decide) (by decide) he1 hpl, fun S σ H ρ Q rel P => ?_⟩
  refine ka S σ H ρ _ rel (Post.seq P (fun z => z) (fun c fs p => p) fun d ρ1 v S1 H1 st1 rel1 q1 P1 => ?_)
  have P1 := P1.step RV.ok st1
  dsimp only at P1
  cases d with
  | dct kvs =>
    have P1 : Post X W S1 H1 os1 σ os1 (RV X.K true) Q ((Out.of (if (apartN (kvs.map (·.1))).isSome then some (D.dct kvs) else none)).bind fun c => .ok (c, ρ1)) := P1
    cases hs : apartN (kvs.map (·.1)) with
    | none => rw [hs] at P1; exact P1.elim
    | some l =>
      rw [hs] at P1
      have q1 : At X.K S1 v (.dct kvs) := q1
      cases q1 with
      | @dct a x _ h t z r =>
        have g := good_of (rel1.sub _ _ h) t z r rel1.sub
        have nd : (x.xs.map fun p => NestedKey.hash X.w p.1).Nodup := by
          have e1 : (x.xs.map fun p => NestedKey.hash X.w p.1) = (x.xs.map (·.1)).map (NestedKey.hash X.w) := by rw [List.map_map]; rfl
          rw [e1, t.keys]
          exact (apart_hash (w := X.w) hs).1
        refine ⟨a, x, rfl, g, nd, fun l y nl hn => ?_⟩
        obtain ⟨h1, h2, h3, h4, h5⟩ := hn
        have xx := Ext.newO (O := fun _ => False) (o := DT l y) rel1.sub nl
        have tok : DTok l y kvs := ⟨h2, h3, by rw [h1]; exact t.keys, by rw [h1]; exact t.nodup, by rw [h1]; exact t.kk, by rw [h1]; exact h5⟩
        have r2 : AtL X.K S1 y.vs (dvs kvs) := by
          have e : y.vs = x.vs := by unfold DX.vs; rw [h1]
          rw [e]
          exact r
        exact P1 (.ref l) S1 _ (Stp.of_ext xx) (rel1.ext0 xx) ⟨.mkX (rel1.sub.free nl) upd_same tok z r2, fun a e => by cases e; exact nl⟩
  | _ => exact P1.elim
/-- dict(a list of pairs) or dict(a dict) -/
def eDictA (f : Rho → Out (D × Rho)) : Rho → Out (D × Rho) := fun ρ => match f ρ with
  | .ok (.dct _, _) => eDictD f ρ
  | _ => eDictL f ρ
theorem ve_dictA (h1 : VE X W os e (eDictD f) os1 true) (h2 : VE X W os e (eDictL f) os1 true) : VE X W os e (eDictA f) os1 true := by
  obtain ⟨t1, p1, k1⟩ := h1
  obtain ⟨t2, p2, k2⟩ := h2
  refine ⟨_, pe_or p1 p2, fun S σ H ρ Q rel P => ?_⟩
  unfold eDictA at P
  split at P
  · exact .inl (k1 S σ H ρ Q rel P)
  · exact .inr (k2 S σ H ρ Q rel P)
end
end SW

set_option maxRecDepth 100000
/-! SW48: the hashes of all words of at most five letters below four are apart. -/
namespace SW
open PySem PySem.Spec PyProof.Rows L2
def accsN : Nat → List Nat
  | 0 => [2870177450012600261]
  | k + 1 => (accsN k).flatMap fun a => [laneN a 0, laneN a 1, laneN a 2, laneN a 3]
def finN (k : Nat) : List Nat := (accsN k).map fun a => (a + (k ^^^ (2870177450012600261 ^^^ 3527539))) % 18446744073709551616
def allN : List Nat := finN 0 ++ (finN 1 ++ (finN 2 ++ (finN 3 ++ (finN 4 ++ finN 5))))
/-- apart by what is left of 49979: the ones seen are bits of a number -/
def chkN : List Nat → Nat → Bool
  | [], _ => true
  | h :: l, s => match s.testBit (h % 49979) with
    | true => false
    | false => match h == 18446744073709551615 with
      | true => false
      | false => chkN l (s ||| 2 ^ (h % 49979))
theorem bit_add {s r i : Nat} : (s ||| 2 ^ r).testBit i = (s.testBit i || decide (r = i)) := by
  rw [Nat.testBit_or, Nat.testBit_two_pow]
theorem chk_nodup : ∀ {l : List Nat} {s : Nat}, chkN l s = true → l.Nodup ∧ (∀ x ∈ l, s.testBit (x % 49979) = false) ∧ ∀ x ∈ l, x ≠ 18446744073709551615
  | [], _, _ => ⟨List.nodup_nil, by simp, by simp⟩
  | h :: l, s, e => by
    unfold chkN at e
    split at e
    · cases e
    · rename_i b
      split at e
      · cases e
      · rename_i n
        obtain ⟨i1, i2, i3⟩ := chk_nodup e
        refine ⟨List.nodup_cons.mpr ⟨fun z => ?_, i1⟩, fun x hx => ?_, fun x hx => ?_⟩
        · have := i2 h z
          rw [bit_add] at this
          simp at this
        · rcases List.mem_cons.mp hx with rfl | hx
          · exact b
          · have := i2 x hx
            rw [bit_add, Bool.or_eq_false_iff] at this
            exact this.1
        · rcases List.mem_cons.mp hx with rfl | hx
          · simpa using n
          · exact i3 x hx
theorem all_chk : chkN allN 0 = true := by decide +kernel
theorem foldl_end {α β : Type} (f : β → α → β) (a : β) (w : List α) (x : α) : (w ++ [x]).foldl f a = f (w.foldl f a) x := by
  rw [List.foldl_append]
  rfl
theorem lanes_app (w : List Nat) (x : Nat) : lanesN (w ++ [x]) = laneN (lanesN w) x := by
  have h := foldl_end laneN 2870177450012600261 w x
  unfold lanesN
  exact h
def wordsN : Nat → List (List Nat)
  | 0 => [[]]
  | k + 1 => (wordsN k).flatMap fun w => [w ++ [0], w ++ [1], w ++ [2], w ++ [3]]
theorem words_lanes : ∀ k : Nat, (wordsN k).map lanesN = accsN k
  | 0 => rfl
  | k + 1 => by
    unfold wordsN accsN
    rw [← words_lanes k, List.map_flatMap, List.flatMap_map]
    congr 1
    funext w
    simp only [List.map_cons, List.map_nil, lanes_app]
theorem words_len : ∀ (k : Nat), ∀ w ∈ wordsN k, w.length = k
  | 0, w, h => by
    rw [List.mem_singleton.mp h]
    rfl
  | k + 1, w, h => by
    obtain ⟨u, hu, hw⟩ := List.mem_flatMap.mp h
    have := words_len k u hu
    simp only [List.mem_cons, List.not_mem_nil, or_false] at hw
    rcases hw with rfl | rfl | rfl | rfl <;> (rw [List.length_append, this]; rfl)
theorem words_all : ∀ (k : Nat) (w : List Nat), w.length = k → (∀ x ∈ w, x < 4) → w ∈ wordsN k
  | 0, w, h, _ => by
    rw [List.length_eq_zero_iff.mp h]
    exact List.mem_singleton.mpr rfl
  | k + 1, w, h, hx => by
    rcases List.eq_nil_or_concat w with rfl | ⟨u, x, rfl⟩
    · cases h
    · rw [List.concat_eq_append] at h hx ⊢
      rw [List.length_append, List.length_singleton] at h
      have hu := words_all k u (by omega) fun y hy => hx y (List.mem_append_left _ hy)
      have h6 : x < 4 := hx x (by simp)
      refine List.mem_flatMap.mpr ⟨u, hu, ?_⟩
      have : x = 0 ∨ x = 1 ∨ x = 2 ∨ x = 3 := by omega
      rcases this with rfl | rfl | rfl | rfl <;> simp
theorem words_end (k : Nat) : (wordsN k).map endN = finN k := by
  unfold finN
  rw [← words_lanes k, List.map_map]
  refine List.map_congr_left fun w hw => ?_
  unfold endN
  rw [words_len k w hw]
  rfl
def allW : List (List Nat) := wordsN 0 ++ (wordsN 1 ++ (wordsN 2 ++ (wordsN 3 ++ (wordsN 4 ++ wordsN 5))))
theorem allW_end : allW.map endN = allN := by
  unfold allW allN
  simp only [List.map_append, words_end]
theorem allW_mem {w : List Nat} (h : w.length ≤ 5) (hx : ∀ x ∈ w, x < 4) : w ∈ allW := by
  have hw := words_all w.length w rfl hx
  unfold allW
  generalize hk : w.length = k at hw h
  have : k = 0 ∨ k = 1 ∨ k = 2 ∨ k = 3 ∨ k = 4 ∨ k = 5 := by omega
  simp only [List.mem_append]
  rcases this with rfl | rfl | rfl | rfl | rfl | rfl
  · exact .inl hw
  · exact .inr (.inl hw)
  · exact .inr (.inr (.inl hw))
  · exact .inr (.inr (.inr (.inl hw)))
  · exact .inr (.inr (.inr (.inr (.inl hw))))
  · exact .inr (.inr (.inr (.inr (.inr hw))))
theorem map_inj {α β : Type} (f : α → β) : ∀ {l : List α}, (l.map f).Nodup → ∀ {x y : α}, x ∈ l → y ∈ l → f x = f y → x = y
  | [], _, x, y, hx, _, _ => by cases hx
  | a :: l, h, x, y, hx, hy, e => by
    rw [List.map_cons] at h
    obtain ⟨h1, h2⟩ := List.nodup_cons.mp h
    rcases List.mem_cons.mp hx with k1 | k1 <;> rcases List.mem_cons.mp hy with k2 | k2
    · rw [k1, k2]
    · exact (h1 (by rw [← k1, e]; exact List.mem_map_of_mem k2)).elim
    · exact (h1 (by rw [← k2, ← e]; exact List.mem_map_of_mem k1)).elim
    · exact map_inj f h2 k1 k2 e
theorem end_inj {v w : List Nat} (hv : v ∈ allW) (hw : w ∈ allW) (e : endN v = endN w) : v = w := by
  have nd := (chk_nodup all_chk).1
  rw [← allW_end] at nd
  exact map_inj endN nd hv hw e
theorem end_top {w : List Nat} (hw : w ∈ allW) : endN w ≠ 18446744073709551615 :=
  (chk_nodup all_chk).2.2 _ (by rw [← allW_end]; exact List.mem_map_of_mem hw)
theorem apart_words : ∀ {ks : List NestedKey} {ws : List (List Nat)}, ks.map wordN = ws.map some → (∀ w ∈ ws, w ∈ allW) → ws.Nodup → apartN ks = some (ws.map endN)
  | [], [], _, _, _ => rfl
  | [], w :: ws, h, _, _ => by cases h
  | k :: ks, [], h, _, _ => by cases h
  | k :: ks, w :: ws, h, ha, hn => by
    rw [List.map_cons, List.map_cons] at h
    injection h with h1 h2
    obtain ⟨n1, n2⟩ := List.nodup_cons.mp hn
    have ih := apart_words h2 (fun v hv => ha v (List.mem_cons_of_mem _ hv)) n2
    unfold apartN
    rw [h1, ih]
    dsimp only
    rw [if_neg]
    · rfl
    · rintro (z | z)
      · obtain ⟨v, hv, e⟩ := List.mem_map.mp z
        have := end_inj (ha v (List.mem_cons_of_mem _ hv)) (ha w (by simp)) e
        exact n1 (this ▸ hv)
      · exact end_top (ha w (by simp)) z
end SW

set_option maxRecDepth 100000
/-! SW55: == and != of dicts whose keys are tuples. -/
namespace SW
open PySem PySem.Spec PyProof.Rows L2
section
variable {prog : Program} {w : World} {A : Around} {E : Value → Shared → Prop} {s : Shared}
variable {K : Type} [DecidableEq K] {knd : HeapKind prog w K}
inductive HitsH {K : Type} [DecidableEq K] (prog : Program) (w : World) (A : Around) (s : Shared) (kb : List (K × Addr × Value)) : List (K × Addr × Value) → Bool → Prop
  | nil : HitsH prog w A s kb [] true
  | miss {k : K} {b : Addr} {v : Value} {r : List (K × Addr × Value)} : atKey kb k = none → HitsH prog w A s kb ((k, b, v) :: r) false
  | hit {k : K} {b : Addr} {v : Value} {y : Addr × Value} {r : List (K × Addr × Value)} {e c : Bool} : atKey kb k = some y → SeqAt.EqP prog w A s v y.2 e → HitsH prog w A s kb r c → HitsH prog w A s kb ((k, b, v) :: r) (e && c)
theorem HitsH.inv {kb : List (K × Addr × Value)} {k : K} {b : Addr} {v : Value} {r : List (K × Addr × Value)} {c : Bool} (h : HitsH prog w A s kb ((k, b, v) :: r) c) :
    (atKey kb k = none ∧ c = false) ∨ ∃ y e c', atKey kb k = some y ∧ SeqAt.EqP prog w A s v y.2 e ∧ HitsH prog w A s kb r c' ∧ c = (e && c') := by
  cases h with
  | miss hn => exact .inl ⟨hn, rfl⟩
  | hit hy he hr => exact .inr ⟨_, _, _, hy, he, hr, rfl⟩
theorem samePairsH {nm : String} {a b : Addr} {ka kb : List (K × Addr × Value)} {r : Bool} {Q : Bool → Shared → Prop} (hu : knd.room A) (ha : (a == sysModules) = false) (hb : (b == sysModules) = false)
    (da : s.heap.DictOfH knd a ka) (db : s.heap.DictOfH knd b kb) (hits : ka.length = kb.length → HitsH prog w A s kb ka r) (h : Q (ka.length == kb.length && r) s) :
    wpAny (model prog w) A (Builtin.Dict.samePairs nm a b) Q E s := by
  obtain ⟨oa, es, ep, hoa, _, hda, hka, hia, hna⟩ := da
  obtain ⟨ob, es', ep', hob, _, hdb, hkb, hib, hnb⟩ := db
  have hla : ka.length = es.size := (size_of_entries hka).symm
  have hlb : kb.length = es'.size := (size_of_entries hkb).symm
  rw [hla, hlb] at h
  unfold Builtin.Dict.samePairs Builtin.Dict.showsAll
  rw [if_neg (show ¬ (a == sysModules) = true by rw [ha]; exact Bool.false_ne_true), if_neg (show ¬ (b == sysModules) = true by rw [hb]; exact Bool.false_ne_true)]
  refine wpAny_bind (wpAny_pure (wpAny_bind (wpAny_pure ?_)))
  refine wpAny_bind (wpAny_dictEntries hoa hda ?_)
  dsimp only
  refine wpAny_bind (wpAny_dictEntries hob hdb ?_)
  by_cases hsz : es.size = es'.size
  case neg =>
    rw [if_pos (by simpa using hsz)]
    have hbf : (es.size == es'.size) = false := by simpa using hsz
    rw [hbf, Bool.false_and] at h
    exact wpAny_bind (wpAny_rule (wpAny_pure h))
  case pos =>
    have h' : Q r s := by simpa [hsz] using h
    have hits' := hits (by rw [hla, hlb]; exact hsz)
    rw [if_neg (by rw [hsz]; simp)]
    refine wpAny_bind (wpAny_dictEpoch hoa hda ?_)
    refine wpAny_bind ?_
    rw [Std.Legacy.Range.forIn_eq_forIn_range']
    simp only [Std.Legacy.Range.size, Nat.sub_zero, Nat.add_sub_cancel, Nat.div_one]
    refine wpAny_forIn_list _
      (fun rest q s' => s' = s ∧ q = (none, ()) ∧ ∃ i, rest = List.range' i (es.size - i) ∧ i ≤ es.size ∧ HitsH prog w A s kb (ka.drop i) r)
      _ ?_ ?_ _ _ ⟨rfl, rfl, 0, by simp, Nat.zero_le _, hits'⟩
    · rintro x rest q s' ⟨rfl, rfl, i, hr, hi, hpre⟩
      have hlt : i < es.size := by
        rcases Nat.lt_or_ge i es.size with h | h
        · exact h
        · rw [Nat.sub_eq_zero_of_le h] at hr; simp at hr
      obtain ⟨rfl, hrest⟩ : x = i ∧ rest = List.range' (i + 1) (es.size - (i + 1)) := by
        have e : es.size - i = (es.size - (i + 1)) + 1 := by omega
        rw [e, List.range'_succ] at hr
        injection hr with h1 h2
        exact ⟨h1, h2⟩
      refine wpAny_bind (wpAny_dictEntries hoa hda ?_)
      have hlt' : x < ka.length := by rw [hla]; exact hlt
      obtain ⟨k, b1, v, hkv⟩ : ∃ k b v, ka[x] = (k, b, v) := ⟨_, _, _, rfl⟩
      have hdrop : ka.drop x = (k, b1, v) :: ka.drop (x + 1) := by rw [← hkv]; exact List.drop_eq_getElem_cons hlt'
      have hex : es[x]? = some ⟨knd.hash k, .ref b1, v⟩ := by
        rw [entry_at hka x, List.getElem?_eq_getElem hlt', hkv]
        rfl
      have hkey : knd.is s'.heap k b1 := hia (k, b1, v) (by rw [← hkv]; exact List.getElem_mem hlt')
      rw [hex]
      rw [hdrop] at hpre
      show wpAny _ _ (holding [Value.ref b1, v] _ >>= _) _ _ _
      refine wpAny_bind (wpAny_holding (wpAny_bind (wpAny_dictFind_heap hu hkey hob hdb hkb hib hnb ?_ ?_)))
      · intro hno
        have hn : atKey kb k = none := atKey_none_of_get hno
        rcases hpre.inv with ⟨_, er⟩ | ⟨y, _, _, hy, _⟩
        · rw [er] at h'
          refine wpAny_pure ?_
          show wpAny _ _ (if (!false) = true then _ else _) _ _ _
          rw [if_pos (by decide)]
          exact wpAny_pure (wpAny_pure h')
        · rw [hn] at hy; exact nomatch hy
      · intro j p hj
        have hv' : atKey kb k = some p := atKey_of_get hnb hj
        refine wpAny_bind (wpAny_dictEntries hob hdb ?_)
        rw [entry_at hkb j, hj]
        rcases hpre.inv with ⟨hn, _⟩ | ⟨y, e, b', hy, he, hrr, er⟩
        · rw [hv'] at hn; exact nomatch hn
        · have ey : p = y := Option.some.inj (hv'.symm.trans hy)
          rw [← ey] at he
          show wpAny _ _ (holding [p.2] (eqBool v p.2)) _ _ _
          refine wpAny_holding (he _ _ ?_)
          cases e with
          | false =>
            rw [er, Bool.false_and] at h'
            show wpAny _ _ (if (!false) = true then _ else _) _ _ _
            rw [if_pos (by decide)]
            exact wpAny_pure (wpAny_pure h')
          | true =>
            rw [Bool.true_and] at er
            rw [← er] at hrr
            show wpAny _ _ (if (!true) = true then _ else _) _ _ _
            rw [if_neg (by decide)]
            refine wpAny_bind (wpAny_dictEpoch hoa hda ?_)
            rw [if_neg (by simp)]
            exact wpAny_pure ⟨rfl, rfl, x + 1, hrest, hlt, hrr⟩
    · rintro q s' ⟨rfl, rfl, i, hr, hi, hpre⟩
      have hin : i = es.size := by
        rcases Nat.lt_or_ge i es.size with h | h
        · have e : es.size - i = (es.size - (i + 1)) + 1 := by omega
          rw [e, List.range'_succ] at hr; exact nomatch hr
        · exact Nat.le_antisymm hi h
      refine wpAny_pure ?_
      rw [hin, ← hla, List.drop_length] at hpre
      cases hpre
      exact h'
theorem neH {a b : Addr} {ka kb : List (K × Addr × Value)} {r : Bool} {Q : Value → Shared → Prop} (hk : knd.room A.in1) (ha : (a == sysModules) = false) (hb : (b == sysModules) = false)
    (da : s.heap.DictOfH knd a ka) (db : s.heap.DictOfH knd b kb) (hu : A.units < cLine) (hits : ka.length = kb.length → HitsH prog w A.in1 s kb ka r) (h : Q (.bool (!(ka.length == kb.length && r))) s) :
    wpAny (model prog w) A (compareOp .NotEq (.ref a) (.ref b)) Q E s := by
  refine wpAny_richCompare_same_room (op := .NotEq) da.typeIs db.typeIs PySem.F.slot_dict_ne (wpAny_call_entry PySem.F.slot_dict_ne da.typeIs PySem.F.entry_dict_ne ?_ (PySem.F.args_dict_ne_2 _ _)) hu
  show wpAny _ _ (Builtin.Dict.dictSlotArgs "__ne__" ⟨[.ref a, .ref b], []⟩ >>= _) _ _ s
  refine wpAny_bind ?_
  unfold Builtin.Dict.dictSlotArgs
  refine wpAny_bind (wpAny_notOrdered_dict da.typeIs ?_)
  show wpAny _ _ (pure (Value.ref a, Value.ref b)) _ _ s
  refine wpAny_pure ?_
  refine wpAny_bind (wpAny_isInstance (T := "dict") db.typeIs PySem.F.sub_dict_dict ?_)
  simp only [Bool.not_true, Bool.false_eq_true, if_false]
  refine wpAny_bind (wpAny_pure (wpAny_bind (wpAny_pure ?_)))
  refine wpAny_bind (samePairsH hk ha hb da db hits ?_)
  refine wpAny_pure ⟨_, rfl, ?_, ?_⟩
  · exact fun x => nomatch x
  · simpa using h
end

/-! ### by data -/
def eqE (ys : List (NestedKey × D)) : List (NestedKey × D) → Option Bool
  | [] => some true
  | (k, d) :: r => match valD ys k with
    | none => some false
    | some e => match d.py, e.py with
      | some p, some q => if shOk p q = true then (eqE ys r).map fun b => PyData.eqv p q && b else none
      | _, _ => none
/-- two dicts are one -/
def dctEq (xs ys : List (NestedKey × D)) : Option Bool := if xs.length = ys.length then eqE ys xs else some false
def neX (a b : D) : Option D := match a, b with
  | .dct xs, .dct ys => (dctEq xs ys).map fun r => .bl (!r)
  | _, _ => neD a b
inductive HitsX (K : PySem.W.Frag) (H : Hp) (yb : XL) : XL → Bool → Prop
  | nil : HitsX K H yb [] true
  | miss {k : NestedKey} {b : Addr} {v : V} {r : XL} : valX yb k = none → HitsX K H yb ((k, b, v) :: r) false
  | hit {k : NestedKey} {b : Addr} {v y : V} {p q : PyData} {r : XL} {c : Bool} : valX yb k = some y → Dp K H v p → Dp K H y q → SeqAt.shaped p = true → SeqAt.shaped q = true → HitsX K H yb r c → HitsX K H yb ((k, b, v) :: r) (PyData.eqv p q && c)
def rDq (K : PySem.W.Frag) (g : Bool → Bool) : R2 := fun x y H Q => ∃ a b u v r, x = .ref a ∧ y = .ref b ∧ DGood K H a u ∧ DGood K H b v ∧ (u.xs.length = v.xs.length → HitsX K H v.xs u.xs r) ∧ Q (.bl (g (u.xs.length == v.xs.length && r))) H
section
variable {X : Cx} {pins : List (Addr × Obj)} {σ : L2.St} {H : Hp} {s : Shared} {A : Around}
theorem HitsX.run (I : Inv X pins σ H s) (hu : A.in1.units + 64 < cLine) {yb : XL} {kb : List (NestedKey × Addr × Value)} (rb : XR yb kb) : ∀ {xa : XL} {ka : List (NestedKey × Addr × Value)} {r : Bool}, XR xa ka → HitsX X.K H yb xa r → HitsH X.prog X.w A.in1 s kb ka r
  | [], _, _, .nil, .nil => .nil
  | (k, b0, x0) :: _, _, _, .cons (b := q) h t, .miss hn => by
    obtain ⟨h1, h2, h3⟩ := h
    obtain ⟨k', b', v'⟩ := q
    dsimp only at h1
    subst h1
    refine .miss ?_
    have := rb.val k
    rw [hn] at this
    cases e : atKey kb k with
    | none => rfl
    | some z => rw [e] at this; exact this.elim
  | (k, b0, x0) :: _, _, _, .cons (b := q) h t, .hit hy hp hq s1 s2 hr => by
    obtain ⟨h1, h2, h3⟩ := h
    obtain ⟨k', b', v'⟩ := q
    dsimp only at h1
    subst h1
    have := rb.val k
    rw [hy] at this
    cases e : atKey kb k with
    | none => rw [e] at this; exact this.elim
    | some z =>
      rw [e] at this
      obtain ⟨as, ra⟩ := Dp.reads I _ _ _ hp h3
      obtain ⟨bs, rb'⟩ := Dp.reads I _ _ _ hq (show RelV _ z.2 from this)
      exact .hit e (PySem.W.keq_at ra rb' s1 s2 hu).eqP (HitsX.run I hu rb t hr)
theorem op_dne (hu : X.A.units + 64 + 4 < cLine) : OpR X (compareOp .NotEq) (rDq X.K not) := by
  intro pins s σ H x y v u Q I rx ry h
  obtain ⟨a, b, p, q, r, rfl, rfl, g1, g2, hh, k⟩ := h
  obtain rfl : v = Value.ref a := rx
  obtain rfl : u = Value.ref b := ry
  obtain ⟨ya, ra, da, _, _⟩ := g1.dict I
  obtain ⟨yb, rb, db, _, _⟩ := g2.dict I
  refine neH (knd := nestedKind X.prog X.w) (r := r) (roomN (by omega)) g1.sys g2.sys da db (by omega) (fun e => HitsX.run I (by show X.A.units + 1 + 64 < cLine; omega) rb ra (hh (by rw [Paired.length ra, Paired.length rb]; exact e))) (fin_bl I k (by rw [Paired.length ra, Paired.length rb]))
/-- the entries' looks -/
theorem hits_of {S : Hp} {m : Addr} {v : DX} {ys : List (NestedKey × D)} (tv : DTok m v ys) (rv : AtL X.K S v.vs (dvs ys)) (sub : Same S H) : ∀ {xa : XL} {xs : List (NestedKey × D)} {r : Bool}, xa.map (·.1) = xs.map (·.1) → AtL X.K S (xa.map (·.2.2)) (xs.map (·.2)) → eqE ys xs = some r → HitsX X.K H v.xs xa r
  | [], [], _, _, _, e => by cases e; exact .nil
  | [], _ :: _, _, ek, _, _ => by simp at ek
  | _ :: _, [], _, ek, _, _ => by simp at ek
  | (k, b, x) :: xa, (k', d) :: xs, r, ek, ra, e => by
    rw [List.map_cons, List.map_cons] at ek
    injection ek with e1 e2
    dsimp only at e1
    subst e1
    rw [List.map_cons, List.map_cons] at ra
    cases ra with
    | cons r1 r2 =>
      unfold eqE at e
      rcases val_at tv rv k with ⟨y, dy, h1, h2, h3⟩ | ⟨h1, h2⟩
      · rw [h2] at e
        dsimp only at e
        cases q1 : d.py with
        | none => rw [q1] at e; cases e
        | some p =>
          cases q2 : dy.py with
          | none => rw [q1, q2] at e; cases e
          | some q =>
            rw [q1, q2] at e
            dsimp only at e
            split at e
            · rename_i ho
              unfold shOk at ho
              rw [Bool.and_eq_true] at ho
              cases q3 : eqE ys xs with
              | none => rw [q3] at e; cases e
              | some c =>
                rw [q3] at e
                cases e
                exact .hit h1 ((r1.mono sub).dp q1) ((h3.mono sub).dp q2) ho.1 ho.2 (hits_of tv rv sub e2 r2 q3)
            · cases e
      · rw [h2] at e
        cases e
        exact .miss h1
theorem o_neX (hu : X.A.units + 64 + 4 < cLine) : Op2 X (compareOp .NotEq) neX := by
  obtain ⟨r, h1, h2⟩ := o_ne (X := X) (by omega)
  refine ⟨fun x y H Q => r x y H Q ∨ rDq X.K not x y H Q, fun pins s σ H x y v u Q I rx ry h => ?_, fun S H x y a b c Q sub ha hb e k => ?_⟩
  · rcases h with h | h
    · exact h1 pins s σ H x y v u Q I rx ry h
    · exact op_dne hu pins s σ H x y v u Q I rx ry h
  · unfold neX at e
    split at e
    · rename_i xs ys
      cases ha with
      | @dct l u _ z1 z2 z3 z4 =>
        cases hb with
        | @dct m v _ w1 w2 w3 w4 =>
          unfold dctEq at e
          have ek := z2.keys
          have e2 := w2.keys
          have l1 := z2.len
          have l2 := w2.len
          obtain ⟨_, ra⟩ := dct_split z2 z4
          split at e
          · rename_i hl
            cases q : eqE ys xs with
            | none => rw [q] at e; cases e
            | some c =>
              rw [q] at e
              cases e
              exact .inr ⟨l, m, u, v, c, rfl, rfl, good_of (sub _ _ z1) z2 z3 z4 sub, good_of (sub _ _ w1) w2 w3 w4 sub, fun _ => hits_of w2 w4 sub ek ra q, by
                have : (u.xs.length == v.xs.length) = true := by simp; omega
                rw [this, Bool.true_and]
                exact k _ S H (Ext.refl sub) (.bl _)⟩
          · rename_i hl
            cases e
            exact .inr ⟨l, m, u, v, false, rfl, rfl, good_of (sub _ _ z1) z2 z3 z4 sub, good_of (sub _ _ w1) w2 w3 w4 sub, fun z => absurd z (by omega), by
              rw [Bool.and_false]
              exact k _ S H (Ext.refl sub) (.bl _)⟩
    · exact .inl (h2 S H x y a b c Q sub ha hb e k)
theorem hu68 {A : Around} {k : Nat} (hr : Room k A) : A.units + 64 + 4 < cLine := by have := hr.un; omega
end
end SW

set_option maxRecDepth 100000
set_option maxHeartbeats 4000000
/-! SW56: min(d, key=f), a dict whose keys are tuples. -/
namespace SW
open PySem PySem.Spec PyProof.Rows L2
open PySem.W (EachIs dataLe AllAlike Sortable alike KdlSrc)

/-- the first of the least key -/
def minGo (kf : D → PyData) : D → List D → D
  | b, [] => b
  | b, d :: ds => minGo kf (if PySem.W.dataLt (kf d) (kf b) = true then d else b) ds
def minK (m : List D → Out (D × D)) : List D → Option D
  | [] => none
  | d :: ds => match keysOf m (d :: ds) with
    | some ks => if keysOk (ks.map (·.2)) = true then some (minGo (keyFn m) d ds) else none
    | none => none
theorem sortable_ne {ps : List PyData} (h : Sortable ps) : ∀ p ∈ ps, p ≠ .none := fun p hp => by
  rcases h with h | h
  · obtain ⟨x, r, e⟩ := h p hp
    rw [e]
    exact fun z => by cases z
  · exact (h p hp).1
section
variable {X : Cx} {pins : List (Addr × Obj)} {σ : L2.St} {S H : Hp} {s : Shared} {E : Value → Shared → Prop} {vsV : List V} {ds : List D} {ks : List (D × PyData)} {a kS I : Addr}
  {k : Nat} {fa : Addr} {fd : FuncData} {ps : List Str} {m : List D → Out (D × D)}
/-- the key's call, by min -/
theorem run_key1 {P : Value → Shared → Prop} (F : FnOk X.prog X.w X.K X.mg X.base (L2.CX X.prog X.w) k fa fd ps (spec X.K X.mg 1 none false m)) (hr : Room (k + 2) X.A) (hb : Binds X.K fd ps [])
    (I : Inv X pins σ H s) (sub : Same S H) {x : V} {u : Value} {d kd o : D} (hat : At X.K S x d) (rx : RelV x u) (hm : m [d] = .ok (kd, o))
    (fin : ∀ v S' H' u' s', Ext (fun _ => False) S H S' H' → At X.K S' v kd → RelV v u' → Inv X pins σ H' s' → Un (frs X.stack) [] H H' s.heap s'.heap → P u' s') : wpAny (model X.prog X.w) X.A.in1 (call (.ref fa) [u]) P E s := by
  have r2 : Vals [x] [u] := .cons rx .nil
  have sp : spec X.K X.mg 1 none false m [x] H (fun v H' => ∃ S', Ext (fun _ => False) S H S' H' ∧ At X.K S' v kd) (fun _ _ _ => False) := by
    refine ⟨rfl, S, [d], rel_args (.cons hat .nil) sub, ?_⟩
    rw [hm]
    exact fun v S' H' x q _ => ⟨S', x.weak fun _ z => own_nil z, q⟩
  have hr1 : Room (k + 1) X.A := hr.mono (by omega)
  refine wpAny_call (codeAny_mono (F.run X.A.in1 X.stack s H ⟨[u], []⟩ ([u] ++ []) [x] _ _ hr1.in1 I.env0.in1 (hb s [u] I.kIn (by rw [← F.len _ _ _ _ sp]; rfl)) r2 sp) fun r s' hq => ?_)
  cases r with
  | error e =>
    obtain ⟨_, _, _, _, _, _, _, _, _, _, _, _, z⟩ := hq
    exact z.elim
  | ok fl =>
    cases fl with
    | ret u' =>
      obtain ⟨v, H', os, bare, un, hok, r, S', x, q⟩ := hq
      exact fin v S' H' u' s' x q r (I.call' os un hok bare fun b z => absurd z (by simp)) un
    | _ => exact hq.elim
theorem fp_up {b : Addr} {H' : Hp} (f : FpOk X pins H b) (n : H' b = none) : FpOk X pins H' b := ⟨n, f.2⟩
/-- what the loop keeps -/
structure MinAt (X : Cx) (pins : List (Addr × Obj)) (σ : L2.St) (S H : Hp) (I kS : Addr) (St : Heap → Prop) (m : List D → Out (D × D)) (b : D) (s' : Shared) (S' H' : Hp) : Prop where
  inv : Inv X pins σ H' s'
  ext : Ext (fun _ => False) S H S' H'
  nk : H' kS = none
  ni : H' I = none
  st : St s'.heap
  best : ∃ vb ub kd kv ukb c, s'.heap.get? kS = some (seqObj "list" #[ub, ukb] c) ∧ At X.K S' vb b ∧ RelV vb ub ∧ At X.K S' kv kd ∧ RelV kv ukb ∧ kd.py = some (keyFn m b)
theorem min_loopK (F : FnOk X.prog X.w X.K X.mg X.base (L2.CX X.prog X.w) k fa fd ps (spec X.K X.mg 1 none false m)) (hr : Room (k + 2) X.A) (hb : Binds X.K fd ps []) (hks : keysOf m ds = some ks) (hok : keysOk (ks.map (·.2)) = true)
    (hat : AtL X.K S vsV ds) (fk : FpOk X pins H kS) (fi : FpOk X pins H I) (hki : kS ≠ I) {oa : Obj} (hka : kS ≠ a) (hia : I ≠ a) (ha : ∀ S' H' s', Same S S' → Same S' H' → Inv X pins σ H' s' → s'.heap.get? a = some oa)
    {P : Nat → Value → Prop} {St : Nat → Heap → Prop} {n : Nat} (hn : n = ds.length) (W : Walks X.prog X.w X.A.in1 I [I, a] [I] n P St) (hSt : ∀ j h, St j h → ∃ o, h.get? I = some o) (hP : ∀ i v, P i v → ∃ y, vsV[i]? = some y ∧ RelV y v) {res : D} {R : Result → Shared → Prop}
    (hR : ∀ v u S2 H2 s2, Ext (fun _ => False) S H S2 H2 → Inv X pins σ H2 s2 → At X.K S2 v res → RelV v u → R (.ok (.ret u)) s2) :
    ∀ (r j : Nat) (b : D) (S' H' : Hp) (s' : Shared), ds.length - j = r → j ≤ ds.length → b ∈ ds → minGo (keyFn m) b (ds.drop j) = res → MinAt X pins σ S H I kS (St j) m b s' S' H' →
      codeAny (model X.prog X.w) X.A (.builtin "min.loop" ⟨[.ref I, .ref fa, .ref kS], []⟩) R s' := by
  subst hn
  have hname : (toString "min" ++ toString ".loop" : String) = "min.loop" := by decide
  obtain ⟨lk, mk, gk⟩ := keysOf_some hks
  obtain ⟨hal, hso, hdp⟩ := keysOk_iff hok
  rw [mk] at hal hso hdp
  have hu := hr.un
  intro r
  induction r with
  | zero =>
    intro j b S' H' s' hj hjl hbm hres A
    obtain ⟨I', x', nkH, niH, st, vb, ub, kd, kv, ukb, c, gk', hvb, rvb, hkv, rkv, hpy⟩ := A
    have hjn : j = ds.length := by omega
    subst hjn
    rw [List.drop_length] at hres
    have hres : b = res := hres
    refine codeAny_builtin PySem.F.entry_min_loop ?_
    rw [Around.under_plainId PySem.F.plain_min_loop _]
    show wpAny _ X.A.in1 (seqItems? (.ref kS) >>= _) _ _ _
    refine wpAny_bind (wpAny_seqItems gk' rfl ?_)
    show wpAny _ X.A.in1 (tryCatch (pyNext (.ref I)) _ >>= _) _ _ _
    refine wpAny_bind (wpAny_tryCatch (W.done _ _ _ st fun h' tk' hk' => ?_))
    have fi' := fp_up fi niH
    have fk' := fp_up fk nkH
    have I1 : Inv X pins σ H' { s' with heap := h', toks := tk' } := I'.turned (t' := tk') (fun b o hb e => hk' b o (by simpa using hb) e) fi'.1 fi'.2.1 fi'.2.2.2.1 fi'.2.2.2.2.1 fi'.2.2.2.2.2
    have gk1 := hk' kS _ (by simpa using hki) gk'
    have sb := Heap.SameBut.update h' kS (Obj.mapSeq fun _ => (#[] : Array Value))
    show wpAny _ X.A.in1 (updateSeq kS (fun _ => #[]) >>= _) _ _ _
    refine wpAny_bind ?_
    refine wpAny_updateSeq gk1 rfl (wpAny_bind (wpAny_letGo (wpAny_pure ?_)))
    exact hR vb ub S' H' _ x' (I1.turned (t' := tk') (fun b ob hb e => (sb.2 b hb).trans e) fk'.1 fk'.2.1 fk'.2.2.2.1 fk'.2.2.2.2.1 fk'.2.2.2.2.2) (hres ▸ hvb) rvb
  | succ r ih =>
    intro j b S' H' s' hj hjl hbm hres A
    obtain ⟨I', x', nkH, niH, st, vb, ub, kd, kv, ukb, c, gk', hvb, rvb, hkv, rkv, hpy⟩ := A
    have hlt : j < ds.length := by omega
    refine codeAny_builtin PySem.F.entry_min_loop ?_
    rw [Around.under_plainId PySem.F.plain_min_loop _]
    show wpAny _ X.A.in1 (seqItems? (.ref kS) >>= _) _ _ _
    refine wpAny_bind (wpAny_seqItems gk' rfl ?_)
    show wpAny _ X.A.in1 (tryCatch (pyNext (.ref I)) _ >>= _) _ _ _
    refine wpAny_bind (wpAny_tryCatch (W.item j _ _ _ hlt st fun v h' tk' hPv hst' hk' => ?_))
    have fi' := fp_up fi niH
    have fk' := fp_up fk nkH
    have I1 : Inv X pins σ H' { s' with heap := h', toks := tk' } := I'.turned (t' := tk') (fun b o hb e => hk' b o (by simpa using hb) e) fi'.1 fi'.2.1 fi'.2.2.2.1 fi'.2.2.2.2.1 fi'.2.2.2.2.2
    have gk1 := hk' kS _ (by simpa using hki) gk'
    obtain ⟨y, ey, ry⟩ := hP j v hPv
    obtain ⟨d, ed⟩ : ∃ d, ds[j]? = some d := ⟨_, List.getElem?_eq_getElem hlt⟩
    obtain ⟨y', ey', hyd⟩ := hat.get ed
    rw [ey] at ey'
    cases ey'
    obtain ⟨kd2, o2, p2, hm2, hp2, hkj⟩ := gk j _ ed
    have hdm : d ∈ ds := List.mem_of_getElem? ed
    have hkf : keyFn m d = p2 := by
      unfold keyFn
      rw [hm2]
      dsimp only
      rw [hp2]
    have hdrop : ds.drop j = d :: ds.drop (j + 1) := by
      rw [List.drop_eq_getElem_cons hlt]
      have : ds[j] = d := by rw [List.getElem?_eq_getElem hlt] at ed; exact Option.some.inj ed
      rw [this]
    rw [hdrop] at hres
    show wpAny _ X.A.in1 (tryCatch (holding [v] (call (.ref fa) [v])) _ >>= _) _ _ _
    refine wpAny_bind (wpAny_tryCatch (wpAny_holding (wpAny_mono (run_key1 (E := fun _ _ => False) F hr hb I1 x'.sh (hyd.mono x'.s) ry hm2 fun v2 S2 H2 u2 s2 x2 q2 r2 I2 un => (show ∃ S2 H2 v2, Inv X pins σ H2 s2 ∧ Ext (fun _ => False) S' H' S2 H2 ∧ At X.K S2 v2 kd2 ∧ RelV v2 u2 ∧ Un (frs X.stack) [] H' H2 h' s2.heap from ⟨S2, H2, v2, I2, x2, q2, r2, un⟩)) (fun u2 s2 q => ?_) fun _ _ z => z.elim)))
    obtain ⟨S2, H2, v2, I2, x2, q2, r2, un⟩ := q
    have fr : ∀ {b : Addr}, FpOk X pins H b → b ∉ frs X.stack := fun {b} f z => by
      rcases List.mem_cons.mp (I2.stkSub b z) with z | z
      · exact f.2.1 z
      · exact f.2.2.1 z
    have gk2 := un.keep kS _ gk1 nkH (fr fk) (by simp)
    have nk2 := un.free kS _ gk1 nkH (by simp)
    have xx := x'.trans x2 fun c q => .inl q
    obtain ⟨oI, hoI⟩ := hSt _ _ hst'
    have ni2 : H2 I = none := un.free I oI hoI niH (by simp)
    have st2 : St (j + 1) s2.heap := W.frame _ _ _ hst' fun b hb o e => by
      rcases List.mem_cons.mp hb with z | z
      · subst z
        exact un.keep b o e niH (fr fi) (by simp)
      · have z := List.mem_singleton.mp z
        subst z
        have e1 : h'.get? b = some oa := ha S' H' _ x'.s x'.sh I1
        rw [e] at e1
        cases e1
        exact ha S2 H2 s2 xx.s xx.sh I2
    obtain ⟨as, ra⟩ := Dp.reads I2 _ _ _ ((q2.mono xx.sh).dp hp2) r2
    obtain ⟨bs, rb⟩ := Dp.reads I2 _ _ _ ((hkv.mono (x2.s.trans xx.sh)).dp hpy) rkv
    have hd40 := hdp (keyFn m d) (List.mem_map.mpr ⟨d, hdm, rfl⟩)
    have al := hal (keyFn m d) (List.mem_map.mpr ⟨d, hdm, rfl⟩) (keyFn m b) (List.mem_map.mpr ⟨b, hbm, rfl⟩)
    have nn := sortable_ne hso (keyFn m d) (List.mem_map.mpr ⟨d, hdm, rfl⟩)
    rw [hkf] at hd40 al nn
    show wpAny _ X.A.in1 (tryCatch (holding [v, u2] (richCompare .Lt u2 ukb >>= _)) _ >>= _) _ _ _
    refine wpAny_bind (wpAny_tryCatch (wpAny_holding (wpAny_bind ?_)))
    show wpAny _ X.A.in1 (compareOp .Lt u2 ukb) _ _ s2
    refine PySem.W.lt_data ra rb al nn (by
      have := Nat.min_le_left p2.depth (keyFn m b).depth
      show X.A.units + 1 + min p2.depth (keyFn m b).depth < cLine
      omega) ?_
    refine wpAny_bind (wpAny_holding (wpAny_truthy_bool ?_))
    refine wpAny_bind (wpAny_letGo (wpAny_pure ?_))
    have hgo : minGo (keyFn m) (if PySem.W.dataLt p2 (keyFn m b) = true then d else b) (ds.drop (j + 1)) = res := by
      rw [← hkf]
      exact hres
    cases hlt2 : PySem.W.dataLt p2 (keyFn m b) with
    | true =>
      rw [hlt2, if_pos rfl] at hgo
      have sb := Heap.SameBut.update s2.heap kS (Obj.mapSeq fun _ => #[v, u2])
      obtain ⟨c3, hc3⟩ : ∃ c3, (s2.heap.update kS (Obj.mapSeq fun _ => #[v, u2])).get? kS = some (seqObj "list" #[v, u2] c3) := ⟨_, get?_update_seq gk2 fun _ => #[v, u2]⟩
      simp only [if_true]
      refine wpAny_bind ?_
      refine wpAny_updateSeq gk2 rfl (wpAny_bind (wpAny_letGo ?_))
      rw [hname]
      have fk2 := fp_up fk nk2
      have I3 : Inv X pins σ H2 { s2 with heap := s2.heap.update kS (Obj.mapSeq fun _ => #[v, u2]) } := I2.turned (t' := s2.toks) (fun b ob hb e => (sb.2 b hb).trans e) fk2.1 fk2.2.1 fk2.2.2.2.1 fk2.2.2.2.2.1 fk2.2.2.2.2.2
      have st3 : St (j + 1) (s2.heap.update kS (Obj.mapSeq fun _ => #[v, u2])) := W.frame _ _ _ st2 fun b hb o e => by
        have : b ≠ kS := by
          rcases List.mem_cons.mp hb with z | z
          · rw [z]; exact hki.symm
          · rw [List.mem_singleton.mp z]; exact hka.symm
        exact (sb.2 b this).trans e
      exact wpAny_pure ⟨plainId_quiet PySem.F.plain_min_loop _, ih (j + 1) d S2 H2 _ (by omega) hlt hdm hgo ⟨I3, xx, nk2, ni2, st3, y, v, kd2, v2, u2, c3, hc3, hyd.mono (x'.s.trans x2.s), ry, q2, r2, by rw [hkf]; exact hp2⟩⟩
    | false =>
      rw [hlt2, if_neg Bool.false_ne_true] at hgo
      simp only [Bool.false_eq_true, if_false]
      refine wpAny_bind (wpAny_letGo ?_)
      rw [hname]
      exact wpAny_pure ⟨plainId_quiet PySem.F.plain_min_loop _, ih (j + 1) b S2 H2 _ (by omega) hlt hbm hgo ⟨I2, xx, nk2, ni2, st2, vb, ub, kd, kv, ukb, c, gk2, hvb.mono x2.s, rvb, hkv.mono x2.s, rkv, hpy⟩⟩
end
def rMinK (X : Cx) (fa : Addr) (m : List D → Out (D × D)) : List V → List V → Hp → VK → Prop := fun vs zs H Q => ∃ (a : Addr) (dx : DX) (S : Hp) (ds : List (NestedKey × D)) (out : D), vs = [V.ref a] ∧ zs = [V.ref fa] ∧ Same S H ∧ S a = some (DT a dx) ∧ DTok a dx ds ∧ ds.length ≤ sizeLine ∧ AtL X.K S dx.vs (dvs ds) ∧ minK m (ds.map fun p => keyB p.1) = some out ∧
  ∀ v S' H', Ext (fun _ => False) S H S' H' → At X.K S' v out → Q v H'
section
variable {X : Cx} {k : Nat} {fa : Addr} {fd : FuncData} {ps : List Str} {m : List D → Out (D × D)}
theorem call_minK (hcalm : X.calm = true) (F : FnOk X.prog X.w X.K X.mg X.base (L2.CX X.prog X.w) k fa fd ps (spec X.K X.mg 1 none false m)) (hr : Room (k + 2) X.A) (hb : Binds X.K fd ps []) : CallRK X (.builtin "min") [Str.ofString "key"] (rMinK X fa m) := by
  intro pins s σ H xs zs us ws Q I r rz h
  obtain ⟨a, dx, S, ds, out, rfl, rfl, sub, hSa, tok, hz, hat, hmk, q⟩ := h
  obtain ⟨u, rfl, rx⟩ := vals1 r
  obtain ⟨w1, rfl, rw1⟩ := vals1 rz
  obtain rfl : u = Value.ref a := rx
  obtain rfl : w1 = Value.ref fa := rw1
  have hname : (toString "min" ++ toString ".loop" : String) = "min.loop" := by decide
  have g : DGood X.K H a dx := good_of (sub _ _ hSa) tok hz hat sub
  obtain ⟨ys, _, _, _, ho⟩ := g.dict I
  obtain ⟨es, ep, hdt, en⟩ := g.ens
  have hh := I.ok.hd hcalm
  have hha : X.A.in1.handled = none := hh
  have raw : s.heap.DictRaw a es ep := ⟨dx.o, ho, g.ex, hdt⟩
  have hsz : es.size = ds.length := by rw [← tok.len, ← Paired.length en, Array.length_toList]
  obtain ⟨r1, _⟩ := dct_split tok hat
  -- the keys
  cases hds : (ds.map fun p => keyB p.1) with
  | nil => rw [hds] at hmk; cases hmk
  | cons d0 dr =>
    rw [hds] at hmk
    have hl : (d0 :: dr).length = ds.length := by rw [← hds, List.length_map]
    obtain ⟨ks, hks, hok, hout⟩ : ∃ ks, keysOf m (d0 :: dr) = some ks ∧ keysOk (ks.map (·.2)) = true ∧ minGo (keyFn m) d0 dr = out := by
      have hmk : (match keysOf m (d0 :: dr) with
        | some ks => if keysOk (ks.map (·.2)) = true then some (minGo (keyFn m) d0 dr) else none
        | none => none) = some out := hmk
      cases e : keysOf m (d0 :: dr) with
      | none => rw [e] at hmk; cases hmk
      | some ks =>
        rw [e] at hmk
        dsimp only at hmk
        split at hmk
        · rename_i ho
          cases hmk
          exact ⟨ks, rfl, ho, rfl⟩
        · cases hmk
    rw [hds] at r1
    have hI : a ≠ s.heap.objs.size := Nat.ne_of_lt (Heap.lt_size ho)
    have ha : ∀ S' H' s', Same S S' → Same S' H' → Inv X pins σ H' s' → s'.heap.get? a = some dx.o := fun S' H' s' e1 e2 I' => (show ObjOk X.prog X.w H' s'.heap a (DT a dx) from I'.hok a _ (e2 _ _ (e1 _ _ hSa))).1
    have W := Walks.rawKeys (prog := X.prog) (w := X.w) (A := X.A.in1) hha s.heap.objs.size a hI es ep
    have hn : es.size = (d0 :: dr).length := by rw [hsz, ← hl]
    have hP : ∀ i v, (∃ hi : i < es.size, v = es[i].key) → ∃ y, (dx.xs.map fun p => V.ref p.2.1)[i]? = some y ∧ RelV y v := by
      rintro i v ⟨hi, rfl⟩
      have hix : i < dx.xs.length := by rw [tok.len, ← hsz]; exact hi
      obtain ⟨en', hen, hk⟩ := en.get (List.getElem?_eq_getElem hix)
      have hkk := hk.1
      rw [Array.getElem?_toList, Array.getElem?_eq_getElem hi] at hen
      cases hen
      exact ⟨V.ref (dx.xs[i]).2.1, by rw [List.getElem?_map, List.getElem?_eq_getElem hix]; rfl, by rw [hkk]; rfl⟩
    refine kmk_tree PySem.F.kind_min PySem.F.plain_min PySem.F.entry_min (kmk_min_key _ _) ?_
    show wpAny _ X.A.in1 (Builtin.Builtins.bindParams "min" ["key", "default"] 0 ⟨[], [(Str.ofString "key", .ref fa)]⟩ >>= _) _ _ s
    refine wpAny_bind (wpAny_of_eq (show Builtin.Builtins.bindParams "min" ["key", "default"] 0 ⟨[], [(Str.ofString "key", .ref fa)]⟩ = pure [some (.ref fa), none] from rfl) ?_)
    refine wpAny_bind (wpAny_pure ?_)
    refine wpAny_bind (wpAny_pyIter_dict_raw g.sys raw ?_)
    refine wpAny_bind (wpAny_newList ?_ (Nat.zero_le _))
    rw [hname]
    refine wpAny_pure ⟨plainId_quiet PySem.F.plain_min_loop _, ?_⟩
    generalize hoI : ({ cls := .type "dict_keyiterator", data := .fields #[.ref a, .int 0 0, .int es.size 0, .int ep 0] } : Obj) = oI
    have hS : (s.heap.push oI).objs.size = s.heap.objs.size + 1 := size_push' ..
    have up : ∀ b o, s.heap.get? b = some o → ((s.heap.push oI).push (seqObj "list" #[] 0)).get? b = some o := fun b o e => Heap.get?_push_of_some _ (Heap.get?_push_of_some _ e)
    have gI : ((s.heap.push oI).push (seqObj "list" #[] 0)).get? s.heap.objs.size = some oI := Heap.get?_push_of_some _ (Heap.get?_push_size _ (by rw [← hoI]; rfl))
    have gS : ((s.heap.push oI).push (seqObj "list" #[] 0)).get? (s.heap.push oI).objs.size = some (seqObj "list" #[] 0) := Heap.get?_push_size _ rfl
    have fi : FpOk X pins H s.heap.objs.size := I.fpOk (Nat.le_refl _) (I.hok.fresh (Nat.le_refl _))
    have fk : FpOk X pins H (s.heap.push oI).objs.size := I.fpOk (by omega) (I.hok.fresh (by omega))
    have hki : (s.heap.push oI).objs.size ≠ s.heap.objs.size := by omega
    have hka : (s.heap.push oI).objs.size ≠ a := by
      rw [hS]
      exact Nat.ne_of_gt (Nat.lt_succ_of_lt (Heap.lt_size ho))
    have I0 : Inv X pins σ H { s with heap := (s.heap.push oI).push (seqObj "list" #[] 0) } := I.kept (t' := s.toks) up
    have st0 : Heap.IsKeyIter ((s.heap.push oI).push (seqObj "list" #[] 0)) s.heap.objs.size a 0 es.size ep ∧ ((s.heap.push oI).push (seqObj "list" #[] 0)).DictRaw a es ep := ⟨⟨oI, gI, by rw [← hoI], by rw [← hoI]; rfl⟩, raw.at fun o e => up a o e⟩
    generalize (s.heap.push oI).objs.size = kS at *
    generalize s.heap.objs.size = IA at *
    generalize (s.heap.push oI).push (seqObj "list" #[] 0) = h0 at *
    have fin : ∀ v u S2 H2 s2, Ext (fun _ => False) S H S2 H2 → Inv X pins σ H2 s2 → At X.K S2 v out → RelV v u → EP X pins σ Q u s2 := fun v u S2 H2 s2 x I2 hv rv => ⟨v, H2, I2, rv, q v S2 H2 x hv⟩
    have hu := hr.un
    obtain ⟨lk, mk, gk⟩ := keysOf_some hks
    obtain ⟨kd2, o2, p2, hm2, hp2, hkj⟩ := gk 0 d0 rfl
    have hkf : keyFn m d0 = p2 := by
      unfold keyFn
      rw [hm2]
      dsimp only
      rw [hp2]
    refine codeAny_builtin PySem.F.entry_min_loop ?_
    rw [Around.under_plainId PySem.F.plain_min_loop _]
    show wpAny _ X.A.in1 (seqItems? (.ref kS) >>= _) _ _ _
    refine wpAny_bind (wpAny_seqItems gS rfl ?_)
    show wpAny _ X.A.in1 (tryCatch (pyNext (.ref IA)) _ >>= _) _ _ _
    refine wpAny_bind (wpAny_tryCatch (W.item 0 _ _ _ (by rw [hn, List.length_cons]; omega) st0 fun v h' tk' hPv hst' hk' => ?_))
    have I1 : Inv X pins σ H { s with heap := h', toks := tk' } := I0.turned (t' := tk') (fun b o hb e => hk' b o (by simpa using hb) e) fi.1 fi.2.1 fi.2.2.2.1 fi.2.2.2.2.1 fi.2.2.2.2.2
    have gk1 := hk' kS _ (by simpa using hki) gS
    obtain ⟨y, ey, ry⟩ := hP 0 v hPv
    obtain ⟨y', ey', hyd⟩ := r1.get (show (d0 :: dr)[0]? = some d0 from rfl)
    rw [ey] at ey'
    cases ey'
    show wpAny _ X.A.in1 (tryCatch (holding [v] (call (.ref fa) [v])) _ >>= _) _ _ _
    refine wpAny_bind (wpAny_tryCatch (wpAny_holding (wpAny_mono (run_key1 (E := fun _ _ => False) F hr hb I1 sub hyd ry hm2 fun v2 S2 H2 u2 s2 x2 q2 r2 I2 un => (show ∃ S2 H2 v2, Inv X pins σ H2 s2 ∧ Ext (fun _ => False) S H S2 H2 ∧ At X.K S2 v2 kd2 ∧ RelV v2 u2 ∧ Un (frs X.stack) [] H H2 h' s2.heap from ⟨S2, H2, v2, I2, x2, q2, r2, un⟩)) (fun u2 s2 q => ?_) fun _ _ z => z.elim)))
    obtain ⟨S2, H2, v2, I2, x2, q2, r2, un⟩ := q
    have fr : ∀ {b : Addr}, FpOk X pins H b → b ∉ frs X.stack := fun {b} f z => by
      rcases List.mem_cons.mp (I2.stkSub b z) with z | z
      · exact f.2.1 z
      · exact f.2.2.1 z
    have gk2 := un.keep kS _ gk1 fk.1 (fr fk) (by simp)
    have nk2 := un.free kS _ gk1 fk.1 (by simp)
    have hSt : ∀ (j : Nat) (h : Heap), (h.IsKeyIter IA a j es.size ep ∧ h.DictRaw a es ep) → ∃ o, h.get? IA = some o := fun j h st => by
      obtain ⟨⟨o, e, _⟩, _⟩ := st
      exact ⟨o, e⟩
    obtain ⟨oJ, hoJ⟩ := hSt _ _ hst'
    have ni2 : H2 IA = none := un.free IA oJ hoJ fi.1 (by simp)
    have st2 := W.frame _ _ s2.heap hst' fun b hb o e => by
      rcases List.mem_cons.mp hb with z | z
      · subst z
        exact un.keep b o e fi.1 (fr fi) (by simp)
      · have z := List.mem_singleton.mp z
        subst z
        have e1 : h'.get? b = some dx.o := ha S H _ (Same.refl _) sub I1
        rw [e] at e1
        cases e1
        exact ha S2 H2 s2 x2.s x2.sh I2
    have sb := Heap.SameBut.update s2.heap kS (Obj.mapSeq fun _ => #[v, u2])
    obtain ⟨c3, hc3⟩ : ∃ c3, (s2.heap.update kS (Obj.mapSeq fun _ => #[v, u2])).get? kS = some (seqObj "list" #[v, u2] c3) := ⟨_, get?_update_seq gk2 fun _ => #[v, u2]⟩
    show wpAny _ X.A.in1 (updateSeq kS (fun _ => #[v, u2]) >>= _) _ _ _
    refine wpAny_bind ?_
    refine wpAny_updateSeq gk2 rfl ?_
    rw [hname]
    have fk2 := fp_up fk nk2
    have I3 : Inv X pins σ H2 { s2 with heap := s2.heap.update kS (Obj.mapSeq fun _ => #[v, u2]) } := I2.turned (t' := s2.toks) (fun b ob hb e => (sb.2 b hb).trans e) fk2.1 fk2.2.1 fk2.2.2.2.1 fk2.2.2.2.2.1 fk2.2.2.2.2.2
    have st3 := W.frame _ _ (s2.heap.update kS (Obj.mapSeq fun _ => #[v, u2])) st2 fun b hb o e => by
      have : b ≠ kS := by
        rcases List.mem_cons.mp hb with z | z
        · rw [z]; exact hki.symm
        · rw [List.mem_singleton.mp z]; exact hka.symm
      exact (sb.2 b this).trans e
    exact wpAny_pure ⟨plainId_quiet PySem.F.plain_min_loop _, min_loopK F hr hb hks hok r1 fk fi hki hka hI.symm ha hn W hSt hP (res := out) fin (dr.length) 1 d0 S2 H2 _ (by rw [List.length_cons]; omega) (by rw [List.length_cons]; omega) (by simp) hout ⟨I3, x2, nk2, ni2, st3, y, v, kd2, v2, u2, c3, hc3, hyd.mono x2.s, ry, q2, r2, by rw [hkf]; exact hp2⟩⟩
end
section
variable {X : Cx} {W : WX} {os os1 : Os} {e : Expr} {f : Rho → Out (D × Rho)} {pos p pk kp : Pos} {k : Nat} {fa : Addr} {fd : FuncData} {ps : List Str} {m : List D → Out (D × D)}
def minDK (m : List D → Out (D × D)) : D → Option D
  | .dct ds => minK m (ds.map fun p => keyB p.1)
  | _ => none
/-- min(d, key=f) -/
def eMinK (m : List D → Out (D × D)) (f : Rho → Out (D × Rho)) : Rho → Out (D × Rho) := eOp1 (minDK m) f
theorem ve_minK {y : Str} (F : FnOk X.prog X.w X.K X.mg X.base (L2.CX X.prog X.w) k fa fd ps (spec X.K X.mg 1 none false m)) (hr : Room (k + 2) X.A) (hmf : X.mg y = some (.ref fa)) (hb : Binds X.K fd ps []) (ha : VE X W os e f os1 false) (hm : X.mg "min" = none) (hle : Le os1 os := by rfl) (hc : X.calm = true := by rfl)
    (hg : Gl X "min" := by rfl) (hgy : Gl X y := by rfl) (hdb : (y == ("__debug__" : Str)) = false := by decide) (he1 : starEach [e] X.env = (false, eval e X.env) :: starEach [] X.env := by rfl)
    (he : backTo pos (starEach [e] X.env) = (false, eval e X.env) :: backTo pos (starEach [] X.env) := by rfl) (hpl : (backTo pos (starEach [e] X.env)).any (·.1) = false := by rfl)
    (hall : (backToKw pos (keywordEach [⟨some "key", .Name y pk, kp⟩] X.env)).all (·.1.isSome) = true := by rfl) (hnone : (backToKw pos (keywordEach [⟨some "key", .Name y pk, kp⟩] X.env)).any (·.1.isNone) = false := by rfl) (hks : (backToKw pos (keywordEach [⟨some "key", .Name y pk, kp⟩] X.env)).filterMap (·.1) = [Str.ofString "key"] := by rfl) :
    VE X W os (.Call (.Name "min" p) [e] [⟨some "key", .Name y pk, kp⟩] pos) (eMinK m f) os1 false := by
  obtain ⟨ta, pa, ka⟩ := ha
  refine ⟨_, pe_callBK (call_minK hc F hr hb) hg hm (by decide +kernel) (pa_cons pa pa_nil he1) (pk_cons (pe_glob (v := .ref fa) hgy hmf rfl hdb) pk_nil) (by decide) (by decide) he hpl hall hnone hks, fun S σ H ρ Q rel P => ?_⟩
  refine ka S σ H ρ _ rel (Post.seq P (fun z => z) (fun c fs p => p) fun d ρ1 v S1 H1 st1 rel1 q1 P1 => ?_)
  obtain ⟨c, hcc, kk⟩ := post_of (P1.step RV.ok st1) rel1
  have q1 : At X.K S1 v d := q1
  cases q1 with
  | @dct a x ds hs tok z r => exact ⟨a, x, S1, ds, c, rfl, rfl, rel1.sub, hs, tok, z, r, hcc, fun v' S' H' x' hv => kk v' S' H' x' hv⟩
  | _ => cases hcc
end
end SW

set_option maxRecDepth 100000
set_option maxHeartbeats 0
namespace Lw
open PySem PySem.Spec PyProof.Rows L2 SW
def k_MOST : D := .int 5

def k_MOST_LETTERS : D := .int 4

def k_NOUGHT : D := .tup [.int 0, .int 1]

def k_ONE : D := .tup [.int 1, .int 1]

abbrev nn__law_mixed : List Str := ["_law_cell", "_law_k", "_law_number_here"]
def b__law_mixed : Rho → Out Fl := (sSeq (sSet 2 (eOp2 addD (eOp2 addD (eOp2 repD (eOp2 addD (eOp2 modD (eVar 0) (eOp2 addD (eOp2 powD (eCon (.int 10)) (eCon (.int 18))) (eCon (.int 9)))) (eOp2 repD (eCon (.int 7)) (eVar 1))) (eCon (.int 739108512309184756019283746561))) (eOp2 repD (eCon (.int 7919)) (eVar 1))) (eCon (.int 1)))) (sSeq (sSet 2 (eOp2 modD (eOp2 repD (eVar 2) (eVar 2)) (eOp2 addD (eOp2 powD (eCon (.int 10)) (eCon (.int 60))) (eCon (.int 7))))) (sRet (eOp2 modD (eOp2 repD (eOp2 addD (eVar 2) (eCon (.int 40503))) (eOp2 addD (eVar 2) (eCon (.int 57)))) (eOp2 addD (eOp2 powD (eCon (.int 10)) (eCon (.int 60))) (eCon (.int 7)))))))
def m__law_mixed : List D → Out (D × D) := runF 3 none b__law_mixed

abbrev nn__law_purse : List Str := ["_law_cell", "_law_k"]
def b__law_purse : Rho → Out Fl := (sSeq (sIf (tVal (eOp2 geA (eVar 0) (eOp2 powD (eCon (.int 10)) (eCon (.int 18))))) (sRet (eLst (aCons (eOp2 subD (eVar 0) (eOp2 powD (eCon (.int 10)) (eCon (.int 18)))) (aCons (eCon (.int 0)) (aCons (eVar 1) aNil))))) sSkip) (sRet (eLst (aCons (eCall m__law_mixed (aCons (eVar 0) (aCons (eVar 1) aNil))) (aCons (eCon (.int 0)) (aCons (eOp2 addD (eOp2 modD (eVar 0) (eOp2 addD (eOp2 powD (eCon (.int 10)) (eCon (.int 18))) (eCon (.int 9)))) (eVar 1)) aNil))))))
def m__law_purse : List D → Out (D × D) := runF 2 none b__law_purse

abbrev nn__law_take : List Str := ["_law_purse_here", "_law_many", "_law_got"]
def b__law_take : Rho → Out Fl := (sSeq (sIf (tPeek (tVal (eOp2 ltA (eOp2 ixA (eVar 0) (eCon (.int 0))) (eVar 1)))) (sSeq (sSetA 0 (eOp2 addD (eIxA 0 (eCon (.int 1))) (eCon (.int 1))) (eCon (.int 1))) (sSetA 0 (eOp2 addD (eIxA 0 (eCon (.int 0))) (eOp2 repD (eVar 1) (eCall m__law_mixed (aCons (eIxA 0 (eCon (.int 2))) (aCons (eOp2 addD (eOp2 repD (eCon (.int 11)) (eIxA 0 (eCon (.int 1)))) (eCon (.int 5))) aNil))))) (eCon (.int 0)))) sSkip) (sSeq (sSet 2 (eOp2 modD (eIxA 0 (eCon (.int 0))) (eVar 1))) (sSeq (sSetA 0 (eOp2 fdivD (eIxA 0 (eCon (.int 0))) (eVar 1)) (eCon (.int 0))) (sRet (eVar 2)))))
def m__law_take : List D → Out (D × D) := runF 3 (some 0) b__law_take

abbrev nn__law_low : List Str := ["_law_top", "_law_bottom", "_law_one", "_law_other"]
def b__law_low : Rho → Out Fl := (sSeq (sSet 2 (eArg absD (aCons (eVar 0) aNil))) (sSeq (sSet 3 (eVar 1)) (sSeq (sWhile (fuelInt 3) (tVal (eOp2 neD (eVar 3) (eCon (.int 0)))) (sPar 2 3 (aCons (eVar 3) (aCons (eOp2 modD (eVar 2) (eVar 3)) aNil)))) (sRet (eTup (aCons (eOp2 fdivD (eVar 0) (eVar 2)) (aCons (eOp2 fdivD (eVar 1) (eVar 2)) aNil)))))))
def m__law_low : List D → Out (D × D) := runF 4 none b__law_low

abbrev nn__law_few : List Str := ["_law_purse_here", "_law_way"]
def b__law_few : Rho → Out Fl := (sSeq (sSet 1 (eCallM m__law_take 0 0 (aHoleQ 0 (aCons (eCon (.int 5)) aNil)))) (sSeq (sIf (tVal (eOp2 ltA (eVar 1) (eCon (.int 3)))) (sRet (eOp2 ixA (eLst (aCons (eTup (aCons (eCon (.int 1)) (aCons (eCon (.int 1)) aNil))) (aCons (eTup (aCons (eOp1 negD (eCon (.int 1))) (aCons (eCon (.int 1)) aNil))) (aCons (eTup (aCons (eCon (.int 2)) (aCons (eCon (.int 1)) aNil))) aNil)))) (eVar 1))) sSkip) (sRet (eCall m__law_low (aCons (eOp2 subD (eCallM m__law_take 0 0 (aHoleQ 0 (aCons (eOp2 addD (eOp2 repD (eCon (.int 2)) (eOp2 powD (eCon (.int 10)) (eCon (.int 3)))) (eCon (.int 1))) aNil))) (eOp2 powD (eCon (.int 10)) (eCon (.int 3)))) (aCons (eOp2 addD (eCon (.int 1)) (eCallM m__law_take 0 0 (aHoleQ 0 (aCons (eCon (.int 9)) aNil)))) aNil))))))
def m__law_few : List D → Out (D × D) := runF 2 (some 0) b__law_few

abbrev nn_is_whole : List Str := ["one"]
def b_is_whole : Rho → Out Fl := (sRet (eAndF (eArg isiD (aCons (eVar 0) (aCons (eCon (.ty .int)) aNil))) (eNotF (eArg isiD (aCons (eVar 0) (aCons (eCon (.ty .bool)) aNil))))))
def m_is_whole : List D → Out (D × D) := runF 1 none b_is_whole

abbrev nn_is_word : List Str := ["word", "count", "way"]
def b_is_word : Rho → Out Fl := (sSeq (sIf (tOrF (tNotF (tVal (eArg isiD (aCons (eVar 0) (aCons (eCon (.ty .tuple)) aNil))))) (tVal (eOp2 gtA (eArg lenA (aCons (eVar 0) aNil)) (eCon k_MOST)))) (sRet (eCon (.bl false))) sSkip) (sSeq (sFor (iSeqA (eVar 0)) (gName 2) (sIf (tOrF (tNotF (tVal (eCall m_is_whole (aCons (eVar 2) aNil)))) (tOrF (tVal (eOp2 ltA (eVar 2) (eCon (.int 0)))) (tVal (eOp2 geA (eVar 2) (eVar 1))))) (sRet (eCon (.bl false))) sSkip)) (sRet (eCon (.bl true)))))
def m_is_word : List D → Out (D × D) := runF 3 none b_is_word

abbrev nn_check_word : List Str := ["word"]
def b_check_word : Rho → Out Fl := (sIf (tNotF (tVal (eCall m_is_word (aCons (eVar 0) (aCons (eCon k_MOST_LETTERS) aNil))))) sStuck sSkip)
def m_check_word : List D → Out (D × D) := runF 1 none b_check_word

abbrev nn_is_least : List Str := ["word", "place"]
def b_is_least : Rho → Out Fl := (sSeq (sFor (iRange (aCons (eCon (.int 1)) (aCons (eArg lenA (aCons (eVar 0) aNil)) aNil))) (gName 1) (sIf (tVal (eOp2 geA (eVar 0) (eSlice (eVar 0) (oSome (eVar 1)) oNone))) (sRet (eCon (.bl false))) sSkip)) (sRet (eOp2 neD (eVar 0) (eTup aNil))))
def m_is_least : List D → Out (D × D) := runF 2 none b_is_least

abbrev nn_falling : List Str := ["word", "found", "many", "length"]
def b_falling : Rho → Out Fl := (sSeq (sSet 1 (eLst aNil)) (sSeq (sWhile (fuelLen 0) (tVal (eOp2 neD (eVar 0) (eTup aNil))) (sSeq (sSet 2 (eArg maxA (aCons (eComp [3] (iRange (aCons (eCon (.int 1)) (aCons (eOp2 addD (eArg lenA (aCons (eVar 0) aNil)) (eCon (.int 1))) aNil))) (gName 3) (tVal (eCall m_is_least (aCons (eSlice (eVar 0) oNone (oSome (eVar 3))) aNil))) (eVar 3)) aNil))) (sSeq (sExpr (eOwnM uAppend 1 (aCons (eSlice (eVar 0) oNone (oSome (eVar 2))) aNil))) (sSet 0 (eSlice (eVar 0) (oSome (eVar 2)) oNone))))) (sRet (eVar 1))))
def m_falling : List D → Out (D × D) := runF 4 none b_falling

abbrev nn_fallen : List Str := ["word"]
def b_fallen : Rho → Out Fl := (sSeq (sExpr (eCall m_check_word (aCons (eVar 0) aNil))) (sRet (eCall m_falling (aCons (eVar 0) aNil))))
def m_fallen : List D → Out (D × D) := runF 1 none b_fallen

abbrev nn__law_word : List Str := ["_law_purse_here", "_law_count", "_law_most", "_law_place"]
def b__law_word : Rho → Out Fl := (sRet (eArg tupleD (aCons (eComp [3] (iRange (aCons (eCallM m__law_take 0 0 (aHoleQ 0 (aCons (eOp2 addD (eVar 2) (eCon (.int 1))) aNil))) aNil)) (gName 3) tYesF (eCallM m__law_take 0 0 (aHoleQ 0 (aCons (eVar 1) aNil)))) aNil)))
def m__law_word : List D → Out (D × D) := runF 4 (some 0) b__law_word

abbrev nn__law_rows_drawn : List Str := ["_law_purse_here", "_law_count", "_law_rows", "_law_turn", "_law_words"]
def b__law_rows_drawn : Rho → Out Fl := (sSeq (sSet 2 eDNew) (sSeq (sFor (iRange (aCons (eOp2 addD (eCon (.int 1)) (eCallM m__law_take 0 0 (aHoleQ 0 (aCons (eCon (.int 3)) aNil)))) aNil)) (gName 3) (sSetA 2 (eCallM m__law_few 0 0 (aHoleQ 0 aNil)) (eArg tupleD (aCons (eCall m_fallen (aCons (eCallM m__law_word 0 0 (aHoleQ 0 (aCons (eVar 1) (aCons (eCon (.int 5)) aNil)))) aNil)) aNil)))) (sRet (eComp [4] (iSeqA (eVar 2)) (gName 4) (tVal (eOp2 neD (eOp2 ixA (eOp2 ixA (eVar 2) (eVar 4)) (eCon (.int 0))) (eCon (.int 0)))) (eTup (aCons (eVar 4) (aCons (eOp2 ixA (eVar 2) (eVar 4)) aNil)))))))
def m__law_rows_drawn : List D → Out (D × D) := runF 5 (some 0) b__law_rows_drawn

abbrev nn__law_rank : List Str := ["_law_word_here"]
def b__law_rank : Rho → Out Fl := (sRet (eTup (aCons (eArg lenA (aCons (eVar 0) aNil)) (aCons (eVar 0) aNil))))
def m__law_rank : List D → Out (D × D) := runF 1 none b__law_rank

abbrev nn__law_told : List Str := ["_law_found", "_law_word_here"]
def b__law_told : Rho → Out Fl := (sRet (eComp [1] (iSeqA (eSortK m__law_rank (eVar 0))) (gName 1) tYesF (eTup (aCons (eVar 1) (aCons (eOp2 ixA (eVar 0) (eVar 1)) aNil)))))
def m__law_told : List D → Out (D × D) := runF 2 none b__law_told

abbrev nn_check_count : List Str := ["count"]
def b_check_count : Rho → Out Fl := (sIf (tOrF (tNotF (tVal (eCall m_is_whole (aCons (eVar 0) aNil)))) (tOrF (tVal (eOp2 ltA (eVar 0) (eCon (.int 1)))) (tVal (eOp2 gtA (eVar 0) (eCon k_MOST_LETTERS))))) sStuck sSkip)
def m_check_count : List D → Out (D × D) := runF 1 none b_check_count

abbrev nn_divisor : List Str := ["one", "other"]
def b_divisor : Rho → Out Fl := (sSeq (sSet 0 (eArg absD (aCons (eVar 0) aNil))) (sSeq (sSet 1 (eArg absD (aCons (eVar 1) aNil))) (sSeq (sWhile (fuelInt 1) (tVal (eOp2 neD (eVar 1) (eCon (.int 0)))) (sPar 0 1 (aCons (eVar 1) (aCons (eOp2 modD (eVar 0) (eVar 1)) aNil)))) (sRet (eVar 0)))))
def m_divisor : List D → Out (D × D) := runF 2 none b_divisor

abbrev nn_is_number : List Str := ["one"]
def b_is_number : Rho → Out Fl := (sSeq (sIf (tOrF (tNotF (tVal (eArg isiD (aCons (eVar 0) (aCons (eCon (.ty .tuple)) aNil))))) (tVal (eOp2 neD (eArg lenA (aCons (eVar 0) aNil)) (eCon (.int 2))))) (sRet (eCon (.bl false))) sSkip) (sSeq (sIf (tOrF (tNotF (tVal (eCall m_is_whole (aCons (eOp2 ixA (eVar 0) (eCon (.int 0))) aNil)))) (tNotF (tVal (eCall m_is_whole (aCons (eOp2 ixA (eVar 0) (eCon (.int 1))) aNil))))) (sRet (eCon (.bl false))) sSkip) (sRet (eAndF (eOp2 geA (eOp2 ixA (eVar 0) (eCon (.int 1))) (eCon (.int 1))) (eOp2 eqD (eCall m_divisor (aCons (eOp2 ixA (eVar 0) (eCon (.int 0))) (aCons (eOp2 ixA (eVar 0) (eCon (.int 1))) aNil))) (eCon (.int 1)))))))
def m_is_number : List D → Out (D × D) := runF 1 none b_is_number

abbrev nn_is_term : List Str := ["told", "count"]
def b_is_term : Rho → Out Fl := (sSeq (sIf (tOrF (tNotF (tVal (eArg isiD (aCons (eVar 0) (aCons (eCon (.ty .tuple)) aNil))))) (tVal (eOp2 neD (eArg lenA (aCons (eVar 0) aNil)) (eCon (.int 2))))) (sRet (eCon (.bl false))) sSkip) (sRet (eAndF (eCall m_is_word (aCons (eOp2 ixA (eVar 0) (eCon (.int 0))) (aCons (eVar 1) aNil))) (eAndF (eCall m_is_number (aCons (eOp2 ixA (eVar 0) (eCon (.int 1))) aNil)) (eOp2 neD (eOp2 ixA (eOp2 ixA (eVar 0) (eCon (.int 1))) (eCon (.int 0))) (eCon (.int 0)))))))
def m_is_term : List D → Out (D × D) := runF 2 none b_is_term

abbrev nn_rank : List Str := ["word"]
def b_rank : Rho → Out Fl := (sRet (eTup (aCons (eArg lenA (aCons (eVar 0) aNil)) (aCons (eVar 0) aNil))))
def m_rank : List D → Out (D × D) := runF 1 none b_rank

abbrev nn_check_sum : List Str := ["count", "total", "place", "told"]
def b_check_sum : Rho → Out Fl := (sFor (iArg iEnum1 (aCons (eVar 1) aNil)) (gTup 2 (gCons (gName 2) (gCons (gName 3) gNil))) (sSeq (sIf (tNotF (tVal (eCall m_is_term (aCons (eVar 3) (aCons (eVar 0) aNil))))) sStuck sSkip) (sIf (tAndF (tVal (eOp2 gtA (eVar 2) (eCon (.int 0)))) (tVal (eOp2 geA (eCall m_rank (aCons (eOp2 ixA (eOp2 ixA (eVar 1) (eOp2 subD (eVar 2) (eCon (.int 1)))) (eCon (.int 0))) aNil)) (eCall m_rank (aCons (eOp2 ixA (eVar 3) (eCon (.int 0))) aNil))))) sStuck sSkip)))
def m_check_sum : List D → Out (D × D) := runF 4 none b_check_sum

abbrev nn_gathered : List Str := ["total"]
def b_gathered : Rho → Out Fl := (sRet (eDictL (eVar 0)))
def m_gathered : List D → Out (D × D) := runF 1 none b_gathered

abbrev nn_lowest : List Str := ["top", "bottom", "shared"]
def b_lowest : Rho → Out Fl := (sSeq (sIf (tVal (eOp2 ltA (eVar 1) (eCon (.int 0)))) (sSeq (sSet 0 (eOp1 negD (eVar 0))) (sSet 1 (eOp1 negD (eVar 1)))) sSkip) (sSeq (sSet 2 (eCall m_divisor (aCons (eVar 0) (aCons (eVar 1) aNil)))) (sRet (eTup (aCons (eOp2 fdivD (eVar 0) (eVar 2)) (aCons (eOp2 fdivD (eVar 1) (eVar 2)) aNil))))))
def m_lowest : List D → Out (D × D) := runF 3 none b_lowest

abbrev nn_plus : List Str := ["one", "other"]
def b_plus : Rho → Out Fl := (sSeq (sIf (tAndF (tVal (eOp2 eqD (eOp2 ixA (eVar 0) (eCon (.int 1))) (eCon (.int 1)))) (tVal (eOp2 eqD (eOp2 ixA (eVar 1) (eCon (.int 1))) (eCon (.int 1))))) (sRet (eTup (aCons (eOp2 addD (eOp2 ixA (eVar 0) (eCon (.int 0))) (eOp2 ixA (eVar 1) (eCon (.int 0)))) (aCons (eCon (.int 1)) aNil)))) sSkip) (sRet (eCall m_lowest (aCons (eOp2 addD (eOp2 repD (eOp2 ixA (eVar 0) (eCon (.int 0))) (eOp2 ixA (eVar 1) (eCon (.int 1)))) (eOp2 repD (eOp2 ixA (eVar 1) (eCon (.int 0))) (eOp2 ixA (eVar 0) (eCon (.int 1))))) (aCons (eOp2 repD (eOp2 ixA (eVar 0) (eCon (.int 1))) (eOp2 ixA (eVar 1) (eCon (.int 1)))) aNil)))))
def m_plus : List D → Out (D × D) := runF 2 none b_plus

abbrev nn_put_to : List Str := ["numbers", "word", "number", "new"]
def b_put_to : Rho → Out Fl := (sSeq (sSet 3 (eCall m_plus (aCons (eDGetO 0 (eVar 1) (eCon k_NOUGHT)) (aCons (eVar 2) aNil)))) (sIf (tVal (eOp2 neD (eOp2 ixA (eVar 3) (eCon (.int 0))) (eCon (.int 0)))) (sSetA 0 (eVar 3) (eVar 1)) (sIf (tPeek (tVal (eOp2 inA (eVar 1) (eVar 0)))) (sExpr (eDPop 0 (eVar 1))) sSkip)))
def m_put_to : List D → Out (D × D) := runF 4 (some 0) b_put_to

abbrev nn_times : List Str := ["one", "other"]
def b_times : Rho → Out Fl := (sSeq (sIf (tAndF (tVal (eOp2 eqD (eOp2 ixA (eVar 0) (eCon (.int 1))) (eCon (.int 1)))) (tVal (eOp2 eqD (eOp2 ixA (eVar 1) (eCon (.int 1))) (eCon (.int 1))))) (sRet (eTup (aCons (eOp2 repD (eOp2 ixA (eVar 0) (eCon (.int 0))) (eOp2 ixA (eVar 1) (eCon (.int 0)))) (aCons (eCon (.int 1)) aNil)))) sSkip) (sRet (eCall m_lowest (aCons (eOp2 repD (eOp2 ixA (eVar 0) (eCon (.int 0))) (eOp2 ixA (eVar 1) (eCon (.int 0)))) (aCons (eOp2 repD (eOp2 ixA (eVar 0) (eCon (.int 1))) (eOp2 ixA (eVar 1) (eCon (.int 1)))) aNil)))))
def m_times : List D → Out (D × D) := runF 2 none b_times

abbrev nn_joined_to : List Str := ["numbers", "one", "other", "word", "number", "behind", "much"]
def b_joined_to : Rho → Out Fl := (sFor (iSeqA (eVar 1)) (gTup 2 (gCons (gName 3) (gCons (gName 4) gNil))) (sFor (iSeqA (eVar 2)) (gTup 2 (gCons (gName 5) (gCons (gName 6) gNil))) (sExpr (eCallM m_put_to 0 0 (aHoleQ 0 (aCons (eOp2 addD (eVar 3) (eVar 5)) (aCons (eCall m_times (aCons (eVar 4) (aCons (eVar 6) aNil))) aNil)))))))
def m_joined_to : List D → Out (D × D) := runF 7 (some 0) b_joined_to

abbrev nn_told_sum : List Str := ["numbers", "word"]
def b_told_sum : Rho → Out Fl := (sRet (eComp [1] (iSeqA (eSortK m_rank (eVar 0))) (gName 1) tYesF (eTup (aCons (eVar 1) (aCons (eOp2 ixA (eVar 0) (eVar 1)) aNil)))))
def m_told_sum : List D → Out (D × D) := runF 2 none b_told_sum

abbrev nn_contrary : List Str := ["one"]
def b_contrary : Rho → Out Fl := (sRet (eTup (aCons (eOp1 negD (eOp2 ixA (eVar 0) (eCon (.int 0)))) (aCons (eOp2 ixA (eVar 0) (eCon (.int 1))) aNil))))
def m_contrary : List D → Out (D × D) := runF 1 none b_contrary

abbrev nn_said_by : List Str := ["tree", "one", "other", "numbers", "word", "number"]
def b_said_by (mf : List D → Out (D × D)) : Rho → Out Fl := (sSeq (sIf (tNotF (tVal (eArg isiD (aCons (eVar 0) (aCons (eCon (.ty .tuple)) aNil))))) (sRet (eLst (aCons (eTup (aCons (eTup (aCons (eVar 0) aNil)) (aCons (eCon k_ONE) aNil))) aNil))) sSkip) (sSeq (sSet 1 (eCall mf (aCons (eOp2 ixA (eVar 0) (eCon (.int 0))) aNil))) (sSeq (sSet 2 (eCall mf (aCons (eOp2 ixA (eVar 0) (eCon (.int 1))) aNil))) (sSeq (sSet 3 eDNew) (sSeq (sExpr (eCallM m_joined_to 0 3 (aHoleQ 3 (aCons (eVar 1) (aCons (eVar 2) aNil))))) (sSeq (sExpr (eCallM m_joined_to 0 3 (aHoleQ 3 (aCons (eVar 2) (aCons (eComp [4, 5] (iSeqA (eVar 1)) (gTup 2 (gCons (gName 4) (gCons (gName 5) gNil))) tYesF (eTup (aCons (eVar 4) (aCons (eCall m_contrary (aCons (eVar 5) aNil)) aNil)))) aNil))))) (sRet (ePeekL (eCall m_told_sum (aCons (eVar 3) aNil))))))))))
def mr_said_by : Nat → List D → Out (D × D)
  | 0 => runF 6 none sStuck
  | k + 1 => runF 6 none (b_said_by (mr_said_by k))
def m_said_by : List D → Out (D × D) := mr_said_by 8

abbrev nn_tree_by : List Str := ["word", "place", "at"]
def b_tree_by (mf : List D → Out (D × D)) : Rho → Out Fl := (sSeq (sIf (tVal (eOp2 eqD (eArg lenA (aCons (eVar 0) aNil)) (eCon (.int 1)))) (sRet (eOp2 ixA (eVar 0) (eCon (.int 0)))) sSkip) (sSeq (sSet 1 (eArg minA (aCons (eComp [2] (iRange (aCons (eCon (.int 1)) (aCons (eArg lenA (aCons (eVar 0) aNil)) aNil))) (gName 2) (tVal (eCall m_is_least (aCons (eSlice (eVar 0) (oSome (eVar 2)) oNone) aNil))) (eVar 2)) aNil))) (sRet (eTup (aCons (eCall mf (aCons (eSlice (eVar 0) oNone (oSome (eVar 1))) aNil)) (aCons (eCall mf (aCons (eSlice (eVar 0) (oSome (eVar 1)) oNone) aNil)) aNil))))))
def mr_tree_by : Nat → List D → Out (D × D)
  | 0 => runF 3 none sStuck
  | k + 1 => runF 3 none (b_tree_by (mr_tree_by k))
def m_tree_by : List D → Out (D × D) := mr_tree_by 8

abbrev nn_joined_trees : List Str := ["words", "total", "word", "numbers"]
def b_joined_trees : Rho → Out Fl := (sSeq (sSet 1 (eLst (aCons (eTup (aCons (eTup aNil) (aCons (eCon k_ONE) aNil))) aNil))) (sSeq (sFor (iSeqA (eVar 0)) (gName 2) (sSeq (sSet 3 eDNew) (sSeq (sExpr (eCallM m_joined_to 0 3 (aHoleQ 3 (aCons (eVar 1) (aCons (eCall m_said_by (aCons (eCall m_tree_by (aCons (eVar 2) aNil)) aNil)) aNil))))) (sSet 1 (ePeekL (eCall m_told_sum (aCons (eVar 3) aNil))))))) (sRet (eVar 1))))
def m_joined_trees : List D → Out (D × D) := runF 4 none b_joined_trees

abbrev nn_told_by_least : List Str := ["count", "total", "numbers", "found", "word", "number", "words", "other", "much"]
def b_told_by_least : Rho → Out Fl := (sSeq (sExpr (eCall m_check_count (aCons (eVar 0) aNil))) (sSeq (sExpr (eCall m_check_sum (aCons (eVar 0) (aCons (eVar 1) aNil)))) (sSeq (sSet 2 (eCall m_gathered (aCons (eVar 1) aNil))) (sSeq (sSet 3 (eLst aNil)) (sSeq (sWhile (fun _ => 2000) (tPeek (tVal (eOp2 gtA (eArg lenA (aCons (eVar 2) aNil)) (eCon (.int 0))))) (sSeq (sSet 4 (ePeekT (eMinK m_rank (eVar 2)))) (sSeq (sSet 5 (eIxA 2 (eVar 4))) (sSeq (sSet 6 (eCall m_falling (aCons (eVar 4) aNil))) (sSeq (sExpr (eOwnM uAppend 3 (aCons (eTup (aCons (eArg tupleD (aCons (eVar 6) aNil)) (aCons (eVar 5) aNil))) aNil))) (sFor (iSeqA (eCall m_joined_trees (aCons (eVar 6) aNil))) (gTup 2 (gCons (gName 7) (gCons (gName 8) gNil))) (sExpr (eCallM m_put_to 0 2 (aHoleQ 2 (aCons (eVar 7) (aCons (eCall m_times (aCons (eCall m_contrary (aCons (eVar 5) aNil)) (aCons (eVar 8) aNil))) aNil))))))))))) (sRet (eVar 3)))))))
def m_told_by_least : List D → Out (D × D) := runF 9 none b_told_by_least

abbrev nn__law_at : List Str := ["_law_script", "_law_k"]
def b__law_at : Rho → Out Fl := (sSeq (sIf (tVal (eOp2 ltA (eVar 1) (eArg lenA (aCons (eVar 0) aNil)))) (sRet (eOp2 ixA (eVar 0) (eVar 1))) sSkip) (sRet (eOp2 addD (eOp2 repD (eCon (.int 3)) (eVar 1)) (eCon (.int 1)))))
def m__law_at : List D → Out (D × D) := runF 2 none b__law_at

abbrev nn__law_number : List Str := ["_law_purse_here", "_law_way"]
def b__law_number : Rho → Out Fl := (sSeq (sSet 1 (eCallM m__law_take 0 0 (aHoleQ 0 (aCons (eCon (.int 5)) aNil)))) (sSeq (sIf (tVal (eOp2 ltA (eVar 1) (eCon (.int 3)))) (sRet (eOp2 ixA (eLst (aCons (eTup (aCons (eCon (.int 0)) (aCons (eCon (.int 1)) aNil))) (aCons (eTup (aCons (eCon (.int 1)) (aCons (eCon (.int 1)) aNil))) (aCons (eTup (aCons (eOp1 negD (eCon (.int 1))) (aCons (eCon (.int 1)) aNil))) aNil)))) (eVar 1))) sSkip) (sSeq (sIf (tVal (eOp2 eqD (eVar 1) (eCon (.int 3)))) (sRet (eTup (aCons (eOp2 subD (eCallM m__law_take 0 0 (aHoleQ 0 (aCons (eCon (.int 13)) aNil))) (eCon (.int 6))) (aCons (eCon (.int 1)) aNil)))) sSkip) (sRet (eCall m__law_low (aCons (eOp2 subD (eCallM m__law_take 0 0 (aHoleQ 0 (aCons (eOp2 addD (eOp2 repD (eCon (.int 2)) (eOp2 powD (eCon (.int 10)) (eCon (.int 3)))) (eCon (.int 1))) aNil))) (eOp2 powD (eCon (.int 10)) (eCon (.int 3)))) (aCons (eOp2 addD (eCon (.int 1)) (eCallM m__law_take 0 0 (aHoleQ 0 (aCons (eCon (.int 9)) aNil)))) aNil)))))))
def m__law_number : List D → Out (D × D) := runF 2 (some 0) b__law_number

abbrev nn__law_sum : List Str := ["_law_purse_here", "_law_count", "_law_many", "_law_most", "_law_found", "_law_term", "_law_word_here", "_law_number_here"]
def b__law_sum : Rho → Out Fl := (sSeq (sSet 4 eDNew) (sSeq (sFor (iRange (aCons (eCallM m__law_take 0 0 (aHoleQ 0 (aCons (eOp2 addD (eVar 2) (eCon (.int 1))) aNil))) aNil)) (gName 5) (sSeq (sSet 6 (eCallM m__law_word 0 0 (aHoleQ 0 (aCons (eVar 1) (aCons (eVar 3) aNil))))) (sSeq (sSet 7 (eCallM m__law_number 0 0 (aHoleQ 0 aNil))) (sIf (tVal (eOp2 neD (eOp2 ixA (eVar 7) (eCon (.int 0))) (eCon (.int 0)))) (sSetA 4 (eVar 7) (eVar 6)) sSkip)))) (sRet (eVar 4))))
def m__law_sum : List D → Out (D × D) := runF 8 (some 0) b__law_sum

abbrev nn__law_plus : List Str := ["_law_one", "_law_other"]
def b__law_plus : Rho → Out Fl := (sRet (eCall m__law_low (aCons (eOp2 addD (eOp2 repD (eOp2 ixA (eVar 0) (eCon (.int 0))) (eOp2 ixA (eVar 1) (eCon (.int 1)))) (eOp2 repD (eOp2 ixA (eVar 1) (eCon (.int 0))) (eOp2 ixA (eVar 0) (eCon (.int 1))))) (aCons (eOp2 repD (eOp2 ixA (eVar 0) (eCon (.int 1))) (eOp2 ixA (eVar 1) (eCon (.int 1)))) aNil))))
def m__law_plus : List D → Out (D × D) := runF 2 none b__law_plus

abbrev nn__law_put : List Str := ["_law_found", "_law_word_here", "_law_number_here"]
def b__law_put : Rho → Out Fl := (sSeq (sSetA 0 (eCall m__law_plus (aCons (eDGetO 0 (eVar 1) (eTup (aCons (eCon (.int 0)) (aCons (eCon (.int 1)) aNil)))) (aCons (eVar 2) aNil))) (eVar 1)) (sIf (tPeek (tVal (eOp2 eqD (eOp2 ixA (eOp2 ixA (eVar 0) (eVar 1)) (eCon (.int 0))) (eCon (.int 0))))) (sExpr (eDPop 0 (eVar 1))) sSkip))
def m__law_put : List D → Out (D × D) := runF 3 (some 0) b__law_put

abbrev nn__law_by : List Str := ["_law_one", "_law_other"]
def b__law_by : Rho → Out Fl := (sRet (eCall m__law_low (aCons (eOp2 repD (eOp2 ixA (eVar 0) (eCon (.int 0))) (eOp2 ixA (eVar 1) (eCon (.int 0)))) (aCons (eOp2 repD (eOp2 ixA (eVar 0) (eCon (.int 1))) (eOp2 ixA (eVar 1) (eCon (.int 1)))) aNil))))
def m__law_by : List D → Out (D × D) := runF 2 none b__law_by

abbrev nn__law_joined : List Str := ["_law_one", "_law_other", "_law_found", "_law_word_here", "_law_behind"]
def b__law_joined : Rho → Out Fl := (sSeq (sSet 2 eDNew) (sSeq (sFor (iSeqA (eVar 0)) (gName 3) (sFor (iSeqA (eVar 1)) (gName 4) (sExpr (eCallM m__law_put 0 2 (aHoleQ 2 (aCons (eOp2 addD (eVar 3) (eVar 4)) (aCons (eCall m__law_by (aCons (eOp2 ixA (eVar 0) (eVar 3)) (aCons (eOp2 ixA (eVar 1) (eVar 4)) aNil))) aNil))))))) (sRet (eVar 2))))
def m__law_joined : List D → Out (D × D) := runF 5 none b__law_joined

abbrev nn__law_not : List Str := ["_law_one"]
def b__law_not : Rho → Out Fl := (sRet (eTup (aCons (eOp2 subD (eCon (.int 0)) (eOp2 ixA (eVar 0) (eCon (.int 0)))) (aCons (eOp2 ixA (eVar 0) (eCon (.int 1))) aNil))))
def m__law_not : List D → Out (D × D) := runF 1 none b__law_not

abbrev nn__law_less : List Str := ["_law_one", "_law_other", "_law_found", "_law_word_here"]
def b__law_less : Rho → Out Fl := (sSeq (sSet 2 (eDictA (eVar 0))) (sSeq (sFor (iSeqA (eVar 1)) (gName 3) (sExpr (eCallM m__law_put 0 2 (aHoleQ 2 (aCons (eVar 3) (aCons (eCall m__law_not (aCons (eOp2 ixA (eVar 1) (eVar 3)) aNil)) aNil)))))) (sRet (eVar 2))))
def m__law_less : List D → Out (D × D) := runF 4 none b__law_less

abbrev nn__law_said : List Str := ["_law_tree_here", "_law_one", "_law_other"]
def b__law_said (mf : List D → Out (D × D)) : Rho → Out Fl := (sSeq (sIf (tNotF (tVal (eArg isiD (aCons (eVar 0) (aCons (eCon (.ty .tuple)) aNil))))) (sRet (eDisp (aCons (eTup (aCons (eVar 0) aNil)) (aCons (eTup (aCons (eCon (.int 1)) (aCons (eCon (.int 1)) aNil))) aNil)))) sSkip) (sSeq (sSet 1 (eCall mf (aCons (eOp2 ixA (eVar 0) (eCon (.int 0))) aNil))) (sSeq (sSet 2 (eCall mf (aCons (eOp2 ixA (eVar 0) (eCon (.int 1))) aNil))) (sRet (eCall m__law_less (aCons (eCall m__law_joined (aCons (eVar 1) (aCons (eVar 2) aNil))) (aCons (eCall m__law_joined (aCons (eVar 2) (aCons (eVar 1) aNil))) aNil)))))))
def mr__law_said : Nat → List D → Out (D × D)
  | 0 => runF 3 none sStuck
  | k + 1 => runF 3 none (b__law_said (mr__law_said k))
def m__law_said : List D → Out (D × D) := mr__law_said 8

abbrev nn_least_tree : List Str := ["word"]
def b_least_tree : Rho → Out Fl := (sSeq (sExpr (eCall m_check_word (aCons (eVar 0) aNil))) (sSeq (sIf (tNotF (tVal (eCall m_is_least (aCons (eVar 0) aNil)))) sStuck sSkip) (sRet (eCall m_tree_by (aCons (eVar 0) aNil)))))
def m_least_tree : List D → Out (D × D) := runF 1 none b_least_tree

abbrev nn__law_row_sum : List Str := ["_law_words", "_law_found", "_law_word_here"]
def b__law_row_sum : Rho → Out Fl := (sSeq (sSet 1 (eDisp (aCons (eTup aNil) (aCons (eTup (aCons (eCon (.int 1)) (aCons (eCon (.int 1)) aNil))) aNil)))) (sSeq (sFor (iSeqA (eVar 0)) (gName 2) (sSet 1 (eCall m__law_joined (aCons (eVar 1) (aCons (eCall m__law_said (aCons (eCall m_least_tree (aCons (eVar 2) aNil)) aNil)) aNil))))) (sRet (eVar 1))))
def m__law_row_sum : List D → Out (D × D) := runF 3 none b__law_row_sum

abbrev nn__law_all : List Str := ["_law_rows", "_law_found", "_law_words", "_law_number_here", "_law_one", "_law_word_here"]
def b__law_all : Rho → Out Fl := (sSeq (sSet 1 eDNew) (sSeq (sFor (iSeqA (eVar 0)) (gTup 2 (gCons (gName 2) (gCons (gName 3) gNil))) (sSeq (sSet 4 (eCall m__law_row_sum (aCons (eVar 2) aNil))) (sFor (iSeqA (eVar 4)) (gName 5) (sExpr (eCallM m__law_put 0 1 (aHoleQ 1 (aCons (eVar 5) (aCons (eCall m__law_by (aCons (eVar 3) (aCons (eOp2 ixA (eVar 4) (eVar 5)) aNil))) aNil)))))))) (sRet (eVar 1))))
def m__law_all : List D → Out (D × D) := runF 6 none b__law_all

abbrev nn__law_whole_word : List Str := ["_law_words", "_law_whole", "_law_word_here"]
def b__law_whole_word : Rho → Out Fl := (sSeq (sSet 1 (eTup aNil)) (sSeq (sFor (iSeqA (eVar 0)) (gName 2) (sSet 1 (eOp2 addD (eVar 1) (eVar 2)))) (sRet (eVar 1))))
def m__law_whole_word : List D → Out (D × D) := runF 3 none b__law_whole_word

abbrev nn__law_is_least : List Str := ["_law_word_here", "_law_others", "_law_at_here", "_law_other"]
def b__law_is_least : Rho → Out Fl := (sSeq (sSet 1 (eComp [2] (iRange (aCons (eCon (.int 1)) (aCons (eArg lenA (aCons (eVar 0) aNil)) aNil))) (gName 2) tYesF (eOp2 addD (eSlice (eVar 0) (oSome (eVar 2)) oNone) (eSlice (eVar 0) oNone (oSome (eVar 2)))))) (sRet (eAndF (eOp2 neD (eVar 0) (eTup aNil)) (eOp2 eqD (eComp [3] (iSeqA (eVar 1)) (gName 3) (tVal (eOp2 leA (eVar 3) (eVar 0))) (eVar 3)) (eLst aNil)))))
def m__law_is_least : List D → Out (D × D) := runF 4 none b__law_is_least

abbrev nn__law_is_row : List Str := ["_law_words", "_law_k", "_law_word_here"]
def b__law_is_row : Rho → Out Fl := (sSeq (sIf (tOrF (tNotF (tVal (eArg isiD (aCons (eVar 0) (aCons (eCon (.ty .tuple)) aNil))))) (tVal (eOp2 neD (eComp [2] (iSeqA (eVar 0)) (gName 2) (tNotF (tVal (eCall m__law_is_least (aCons (eVar 2) aNil)))) (eVar 2)) (eLst aNil)))) (sRet (eCon (.bl false))) sSkip) (sRet (eOp2 eqD (eComp [1] (iRange (aCons (eCon (.int 1)) (aCons (eArg lenA (aCons (eVar 0) aNil)) aNil))) (gName 1) (tVal (eOp2 gtA (eOp2 ixA (eVar 0) (eVar 1)) (eOp2 ixA (eVar 0) (eOp2 subD (eVar 1) (eCon (.int 1)))))) (eVar 1)) (eLst aNil))))
def m__law_is_row : List D → Out (D × D) := runF 3 none b__law_is_row

abbrev nn__law_form_right : List Str := ["_law_told_here", "_law_row", "_law_ranks", "_law_words", "_law_number_here", "_law_k"]
def b__law_form_right : Rho → Out Fl := (sSeq (sIf (tNotF (tVal (eArg isiD (aCons (eVar 0) (aCons (eCon (.ty .list)) aNil))))) (sRet (eCon (.bl false))) sSkip) (sSeq (sFor (iSeqA (eVar 0)) (gName 1) (sSeq (sIf (tOrF (tNotF (tVal (eArg isiD (aCons (eVar 1) (aCons (eCon (.ty .tuple)) aNil))))) (tOrF (tVal (eOp2 neD (eArg lenA (aCons (eVar 1) aNil)) (eCon (.int 2)))) (tNotF (tVal (eCall m__law_is_row (aCons (eOp2 ixA (eVar 1) (eCon (.int 0))) aNil)))))) (sRet (eCon (.bl false))) sSkip) (sIf (tOrF (tNotF (tVal (eArg isiD (aCons (eOp2 ixA (eVar 1) (eCon (.int 1))) (aCons (eCon (.ty .tuple)) aNil))))) (tOrF (tVal (eOp2 eqD (eOp2 ixA (eOp2 ixA (eVar 1) (eCon (.int 1))) (eCon (.int 0))) (eCon (.int 0)))) (tOrF (tVal (eOp2 ltA (eOp2 ixA (eOp2 ixA (eVar 1) (eCon (.int 1))) (eCon (.int 1))) (eCon (.int 1)))) (tVal (eOp2 neD (eCall m__law_low (aCons (eOp2 ixA (eOp2 ixA (eVar 1) (eCon (.int 1))) (eCon (.int 0))) (aCons (eOp2 ixA (eOp2 ixA (eVar 1) (eCon (.int 1))) (eCon (.int 1))) aNil))) (eOp2 ixA (eVar 1) (eCon (.int 1)))))))) (sRet (eCon (.bl false))) sSkip))) (sSeq (sSet 2 (eComp [3, 4] (iSeqA (eVar 0)) (gTup 2 (gCons (gName 3) (gCons (gName 4) gNil))) tYesF (eCall m__law_rank (aCons (eCall m__law_whole_word (aCons (eVar 3) aNil)) aNil)))) (sRet (eOp2 eqD (eComp [5] (iRange (aCons (eCon (.int 1)) (aCons (eArg lenA (aCons (eVar 2) aNil)) aNil))) (gName 5) (tVal (eOp2 leA (eOp2 ixA (eVar 2) (eVar 5)) (eOp2 ixA (eVar 2) (eOp2 subD (eVar 5) (eCon (.int 1)))))) (eVar 5)) (eLst aNil))))))
def m__law_form_right : List D → Out (D × D) := runF 6 none b__law_form_right

abbrev nn__law_whole_rank : List Str := ["_law_row"]
def b__law_whole_rank : Rho → Out Fl := (sRet (eCall m__law_rank (aCons (eCall m__law_whole_word (aCons (eOp2 ixA (eVar 0) (eCon (.int 0))) aNil)) aNil)))
def m__law_whole_rank : List D → Out (D × D) := runF 1 none b__law_whole_rank

abbrev nn_law : List Str := ["_law_script", "_law_cell", "_law_purse_here", "_law_count", "_law_rows", "_law_way", "_law_found", "_law_handed", "_law_told_here", "_law_held"]
def b_law : Rho → Out Fl := (sSeq (sFor (iSeqA (eOp2 addD (eSlice (eVar 0) oNone (oSome (eCon (.int 3)))) (eLst (aCons (eCall m__law_at (aCons (eVar 0) (aCons (eCon (.int 1)) aNil))) aNil)))) (gName 1) (sSeq (sSet 2 (eCall m__law_purse (aCons (eVar 1) (aCons (eCon (.int 55)) aNil)))) (sSeq (sSet 3 (eOp2 addD (eCon (.int 1)) (eCallM m__law_take 0 2 (aHoleQ 2 (aCons (eCon (.int 4)) aNil))))) (sSeq (sSet 4 (eCallM m__law_rows_drawn 0 2 (aHoleQ 2 (aCons (eVar 3) aNil)))) (sSeq (sSet 5 (eCallM m__law_take 0 2 (aHoleQ 2 (aCons (eCon (.int 2)) aNil)))) (sSeq (sSet 6 (eOp2 ixA (eLst (aCons (eCallM m__law_sum 0 2 (aHoleQ 2 (aCons (eVar 3) (aCons (eCon (.int 5)) (aCons (eCon (.int 5)) aNil))))) (aCons (eCall m__law_all (aCons (eVar 4) aNil)) aNil))) (eVar 5))) (sSeq (sSet 7 (eCall m__law_told (aCons (eVar 6) aNil))) (sSeq (sSet 8 (eCall m_told_by_least (aCons (eVar 3) (aCons (eVar 7) aNil)))) (sSeq (sIf (tPeek (tOrF (tNotF (tVal (eCall m__law_form_right (aCons (eVar 8) aNil)))) (tOrF (tVal (eOp2 neX (eCall m__law_all (aCons (eVar 8) aNil)) (eVar 6))) (tVal (eOp2 neD (eVar 7) (eCall m__law_told (aCons (eVar 6) aNil))))))) (sRet (eCon (.bl false))) sSkip) (sSeq (sIf (tPeek (tAndF (tVal (eOp2 eqD (eVar 5) (eCon (.int 1)))) (tVal (eOp2 neD (eVar 8) (eSortK m__law_whole_rank (eVar 4)))))) (sRet (eCon (.bl false))) sSkip) (sSeq (sSet 9 (eArg listD (aCons (eVar 8) aNil))) (sSeq (sExpr (eOwnM uClear 8 aNil)) (sIf (tOrF (tVal (eOp2 neD (eCall m_told_by_least (aCons (eVar 3) (aCons (eVar 7) aNil))) (eVar 9))) (tVal (eOp2 neD (eVar 7) (eCall m__law_told (aCons (eVar 6) aNil))))) (sRet (eCon (.bl false))) sSkip))))))))))))) (sRet (eCon (.bl true))))
def m_law : List D → Out (D × D) := runF 10 none b_law

end Lw

set_option maxRecDepth 100000
set_option maxHeartbeats 2000000
set_option exponentiation.threshold 4000
namespace Lw
open PySem PySem.Spec PyProof.Rows L2 SW
/-! the purse: how a cell's digits are taken -/
def mixA (c k : Int) : Int := (c % 1000000000000000009 + 7 * k) * 739108512309184756019283746561 + 7919 * k + 1
def mixB (c k : Int) : Int := mixA c k * mixA c k % 1000000000000000000000000000000000000000000000000000000000007
def mixR (c k : Int) : Int := (mixB c k + 40503) * (mixB c k + 57) % 1000000000000000000000000000000000000000000000000000000000007
theorem mixR_bound (c k : Int) : 0 ≤ mixR c k ∧ mixR c k < 1000000000000000000000000000000000000000000000000000000000007 := by
  unfold mixR
  exact ⟨Int.emod_nonneg _ (by omega), Int.emod_lt_of_pos _ (by omega)⟩
theorem natAbs_lt {i : Int} {n : Nat} (h0 : 0 ≤ i) (h : i < (n : Int)) : i.natAbs < n := by omega
theorem two_pow_cast (n : Nat) : ((2 ^ n : Nat) : Int) = (2 : Int) ^ n := by simp
theorem mix_ok (c k : Int) (h0 : 0 ≤ k) (hk : k < 2 ^ 1000) : m__law_mixed [.int c, .int k] = .ok (.int (mixR c k), .non) := by
  have b1 : bits2 7 k = true := bits2_l (by decide)
  have b2 : bits2 7919 k = true := bits2_l (by decide)
  have hc0 : 0 ≤ c % 1000000000000000009 := Int.emod_nonneg _ (by omega)
  have hc1 : c % 1000000000000000009 < 1000000000000000009 := Int.emod_lt_of_pos _ (by omega)
  have e1000 : (2 : Int) ^ 1000 = ((2 ^ 1000 : Nat) : Int) := (two_pow_cast 1000).symm
  have h1 : (c % 1000000000000000009 + 7 * k).natAbs < 2 ^ 1100 := by
    have : (2 : Nat) ^ 1100 = 2 ^ 1000 * 2 ^ 100 := by rw [← Nat.pow_add]
    have h2 : (2 : Nat) ^ 100 = 1267650600228229401496703205376 := by decide
    rw [e1000] at hk
    generalize (2 : Nat) ^ 1000 = N at hk this
    omega
  have b3 : bits2 (c % 1000000000000000009 + 7 * k) 739108512309184756019283746561 = true := bits2_of (b := 200) h1 (by decide) (by decide)
  have hA : (mixA c k).natAbs < 2 ^ 1400 := by
    unfold mixA
    have : (2 : Nat) ^ 1400 = 2 ^ 1000 * 2 ^ 400 := by rw [← Nat.pow_add]
    have h2 : (2 : Nat) ^ 400 > 10 ^ 100 := by decide
    rw [e1000] at hk
    generalize (2 : Nat) ^ 1000 = N at hk this
    generalize (2 : Nat) ^ 400 = M at h2 this
    have h3 : N * 10 ^ 100 ≤ N * M := Nat.mul_le_mul_left _ (Nat.le_of_lt h2)
    omega
  have b4 : bits2 (mixA c k) (mixA c k) = true := bits2_of hA hA (by decide)
  have hB0 : 0 ≤ mixB c k := Int.emod_nonneg _ (by omega)
  have hB1 : mixB c k < 1000000000000000000000000000000000000000000000000000000000007 := Int.emod_lt_of_pos _ (by omega)
  have b5 : bits2 (mixB c k + 40503) (mixB c k + 57) = true := by
    have h2 : (2 : Nat) ^ 300 > 10 ^ 70 := by decide
    refine bits2_of (a := 300) (b := 300) ?_ ?_ (by decide)
    · omega
    · omega
  unfold mixA at b4
  unfold mixB mixA at b5
  have e9 : (1000000000000000000 : Int) + 9 = 1000000000000000009 := by decide
  have e7 : (1000000000000000000000000000000000000000000000000000000000000 : Int) + 7 = 1000000000000000000000000000000000000000000000000000000000007 := by decide
  simp (disch := first | assumption | decide | omega) only [m__law_mixed, b__law_mixed, runF, m0, sSeq, sSet, sIf, sRet, sRetN, sExpr, sSkip_ok, sSetA, sSetIx, sFor, sPar, sBind, sAug, eVar, eCon_ok, eOp2, eOp1, eCall, eCallM, eCallT, eTup, eLst, eArg, eIf, tVal, tNotF, tAndF, tOrF, eB, eAndF, eOrF, eNotF, eIxA, eIxO, eCatO, ixA_lst, ixA_tup, ixA_scr, eDNew, eDGet, eDGetO, eDPop, eSortK, eMM, aHoleQ, aHole, aNil_ok, aCons, oNone_ok, oSome, eSlice, eSliceL, iSeqA, iSeq, iRange, iArg, ePeek, tPeek, eOwnM, tYes_ok, bind_ok, bind_exc, bind_stuck, of_some, flatD, SW.gName, List.getD_cons_zero, List.getD_cons_succ, List.set_cons_zero, List.set_cons_succ, List.map_cons, List.map_nil, List.length_cons, List.length_nil, List.cons_append, List.nil_append, List.replicate, Nat.reduceAdd, Nat.reduceSub, addD_int, subD_int, negD_int, repD_int, modD_int, fdivD_int, ltA_int, leA_int, gtA_int, geA_int, eqD_int, neD_int, pow_10_18, pow_10_60, e9, e7, mixR, mixB, mixA]
/-- a purse -/
def purseD (a b c : Int) : D := .lst [.int a, .int b, .int c]
structure Ps (n : Nat) (d : D) : Prop where
  ex : ∃ a b c : Int, d = purseD a b c ∧ 0 ≤ a ∧ 0 ≤ b ∧ b + n ≤ 2 ^ 900
theorem ix0 {a b c : Int} : ixD (.lst [.int a, .int b, .int c]) (.int 0) = some (.int a) := rfl
theorem ix1 {a b c : Int} : ixD (.lst [.int a, .int b, .int c]) (.int 1) = some (.int b) := rfl
theorem ix2 {a b c : Int} : ixD (.lst [.int a, .int b, .int c]) (.int 2) = some (.int c) := rfl
theorem ixN30 : ixN 3 0 = some 0 := by decide
theorem ixN31 : ixN 3 1 = some 1 := by decide
theorem take_ok {n : Nat} {p : D} {many : Int} (hp : Ps (n + 1) p) (h1 : 1 ≤ many) (h2 : many < 2 ^ 200) : ∃ (g : Int) (p' : D), m__law_take [p, .int many] = .ok (.int g, p') ∧ 0 ≤ g ∧ g < many ∧ Ps n p' := by
  obtain ⟨a, b, c, rfl, h0, hb, hn⟩ := hp.ex
  have e900 : (2 : Int) ^ 900 = ((2 ^ 900 : Nat) : Int) := (two_pow_cast 900).symm
  have e1000 : (2 : Int) ^ 1000 = ((2 ^ 1000 : Nat) : Int) := (two_pow_cast 1000).symm
  have ee : (2 : Nat) ^ 1000 = 2 ^ 900 * 2 ^ 100 := by rw [← Nat.pow_add]
  have e100 : (2 : Nat) ^ 100 = 1267650600228229401496703205376 := by decide
  have hk : 11 * (b + 1) + 5 < 2 ^ 1000 := by
    rw [e1000, ee]
    rw [e900] at hn
    generalize (2 : Nat) ^ 900 = N at hn ⊢
    omega
  have bm : bits2 11 (b + 1) = true := bits2_l (by decide)
  have hmix := mix_ok c (11 * (b + 1) + 5) (by omega) hk
  obtain ⟨r0, r1⟩ := mixR_bound c (11 * (b + 1) + 5)
  have bmm : bits2 many (mixR c (11 * (b + 1) + 5)) = true := by
    have h5 : (2 : Int) ^ 200 = ((2 ^ 200 : Nat) : Int) := (two_pow_cast 200).symm
    rw [h5] at h2
    refine bits2_of (a := 200) (b := 300) (natAbs_lt (by omega) h2) ?_ (by decide)
    have h2 : (2 : Nat) ^ 300 > 10 ^ 70 := by decide
    omega
  have hpos : 0 < many := by omega
  by_cases hlt : a < many
  · have hmul : 0 ≤ many * mixR c (11 * (b + 1) + 5) := Int.mul_nonneg (by omega) r0
    refine ⟨(a + many * mixR c (11 * (b + 1) + 5)) % many, purseD ((a + many * mixR c (11 * (b + 1) + 5)) / many) (b + 1) c, ?_, Int.emod_nonneg _ (by omega), Int.emod_lt_of_pos _ hpos, ⟨_, _, _, rfl, ?_, by omega, by omega⟩⟩
    · simp (disch := first | assumption | decide | omega) only [m__law_take, b__law_take, purseD, runF, m0, sSeq, sSet, sIf, sRet, sRetN, sExpr, sSkip_ok, sSetA, sSetIx, sFor, sPar, sBind, sAug, eVar, eCon_ok, eOp2, eOp1, eCall, eCallM, eCallT, eTup, eLst, eArg, eIf, tVal, tNotF, tAndF, tOrF, eB, eAndF, eOrF, eNotF, eIxA, eIxO, eCatO, ixA_lst, ixA_tup, ixA_scr, eDNew, eDGet, eDGetO, eDPop, eSortK, eMM, aHoleQ, aHole, aNil_ok, aCons, oNone_ok, oSome, eSlice, eSliceL, iSeqA, iSeq, iRange, iArg, ePeek, tPeek, eOwnM, tYes_ok, bind_ok, bind_exc, bind_stuck, of_some, flatD, SW.gName, List.getD_cons_zero, List.getD_cons_succ, List.set_cons_zero, List.set_cons_succ, List.map_cons, List.map_nil, List.length_cons, List.length_nil, List.cons_append, List.nil_append, List.replicate, Nat.reduceAdd, Nat.reduceSub, addD_int, subD_int, negD_int, repD_int, modD_int, fdivD_int, ltA_int, leA_int, gtA_int, geA_int, eqD_int, neD_int, pow_10_18, pow_10_60, ix0, ix1, ix2, decide_eq_true hlt, if_true, ixN30, ixN31, hmix, Option.getD_some]
    · exact Int.ediv_nonneg (by omega) (by omega)
  · refine ⟨a % many, purseD (a / many) b c, ?_, Int.emod_nonneg _ (by omega), Int.emod_lt_of_pos _ hpos, ⟨_, _, _, rfl, Int.ediv_nonneg h0 (by omega), hb, by omega⟩⟩
    simp (disch := first | assumption | decide | omega) only [m__law_take, b__law_take, purseD, runF, m0, sSeq, sSet, sIf, sRet, sRetN, sExpr, sSkip_ok, sSetA, sSetIx, sFor, sPar, sBind, sAug, eVar, eCon_ok, eOp2, eOp1, eCall, eCallM, eCallT, eTup, eLst, eArg, eIf, tVal, tNotF, tAndF, tOrF, eB, eAndF, eOrF, eNotF, eIxA, eIxO, eCatO, ixA_lst, ixA_tup, ixA_scr, eDNew, eDGet, eDGetO, eDPop, eSortK, eMM, aHoleQ, aHole, aNil_ok, aCons, oNone_ok, oSome, eSlice, eSliceL, iSeqA, iSeq, iRange, iArg, ePeek, tPeek, eOwnM, tYes_ok, bind_ok, bind_exc, bind_stuck, of_some, flatD, SW.gName, List.getD_cons_zero, List.getD_cons_succ, List.set_cons_zero, List.set_cons_succ, List.map_cons, List.map_nil, List.length_cons, List.length_nil, List.cons_append, List.nil_append, List.replicate, Nat.reduceAdd, Nat.reduceSub, addD_int, subD_int, negD_int, repD_int, modD_int, fdivD_int, ltA_int, leA_int, gtA_int, geA_int, eqD_int, neD_int, pow_10_18, pow_10_60, ix0, ix1, ix2, decide_eq_false hlt, if_false, Bool.false_eq_true, ixN30, ixN31, Option.getD_some]

/-! what a law reads and draws -/
theorem law_at_ok (ns : List Int) (k : Int) (hk : 0 ≤ k) : ∃ i : Int, m__law_at [.scr ns, .int k] = .ok (.int i, .non) := by
  by_cases h : k < ns.length
  · have e : ixD (.scr ns) (.int k) = some (.int (ns.getD k.toNat 0)) := by
      show (atI ns k).map D.int = _
      unfold atI ixN
      rw [if_pos hk, if_pos h]
      show (ns[k.toNat]?).map D.int = _
      rw [List.getD_eq_getElem?_getD, List.getElem?_eq_getElem (by omega)]
      rfl
    refine ⟨ns.getD k.toNat 0, ?_⟩
    · have el : lenA [.scr ns] = some (.int ns.length) := rfl
      simp (disch := first | assumption | decide | omega) only [m__law_at, b__law_at, runF, m0, sSeq, sSet, sIf, sRet, sRetN, sExpr, sSkip_ok, sSetA, sSetIx, sFor, sPar, sBind, sAug, eVar, eCon_ok, eOp2, eOp1, eCall, eCallM, eCallT, eTup, eLst, eArg, eIf, tVal, tNotF, tAndF, tOrF, eB, eAndF, eOrF, eNotF, eIxA, eIxO, eCatO, ixA_lst, ixA_tup, ixA_scr, eDNew, eDGet, eDGetO, eDPop, eSortK, eMM, aHoleQ, aHole, aNil_ok, aCons, oNone_ok, oSome, eSlice, eSliceL, iSeqA, iSeq, iRange, iArg, ePeek, tPeek, eOwnM, tYes_ok, bind_ok, bind_exc, bind_stuck, of_some, flatD, SW.gName, List.getD_cons_zero, List.getD_cons_succ, List.set_cons_zero, List.set_cons_succ, List.map_cons, List.map_nil, List.length_cons, List.length_nil, List.cons_append, List.nil_append, List.replicate, Nat.reduceAdd, Nat.reduceSub, addD_int, subD_int, negD_int, repD_int, modD_int, fdivD_int, ltA_int, leA_int, gtA_int, geA_int, eqD_int, neD_int, pow_10_18, pow_10_60, el, decide_eq_true h, if_true, e]
  · refine ⟨3 * k + 1, ?_⟩
    have el : lenA [.scr ns] = some (.int ns.length) := rfl
    have b3 : bits2 3 k = true := bits2_l (by decide)
    simp (disch := first | assumption | decide | omega) only [m__law_at, b__law_at, runF, m0, sSeq, sSet, sIf, sRet, sRetN, sExpr, sSkip_ok, sSetA, sSetIx, sFor, sPar, sBind, sAug, eVar, eCon_ok, eOp2, eOp1, eCall, eCallM, eCallT, eTup, eLst, eArg, eIf, tVal, tNotF, tAndF, tOrF, eB, eAndF, eOrF, eNotF, eIxA, eIxO, eCatO, ixA_lst, ixA_tup, ixA_scr, eDNew, eDGet, eDGetO, eDPop, eSortK, eMM, aHoleQ, aHole, aNil_ok, aCons, oNone_ok, oSome, eSlice, eSliceL, iSeqA, iSeq, iRange, iArg, ePeek, tPeek, eOwnM, tYes_ok, bind_ok, bind_exc, bind_stuck, of_some, flatD, SW.gName, List.getD_cons_zero, List.getD_cons_succ, List.set_cons_zero, List.set_cons_succ, List.map_cons, List.map_nil, List.length_cons, List.length_nil, List.cons_append, List.nil_append, List.replicate, Nat.reduceAdd, Nat.reduceSub, addD_int, subD_int, negD_int, repD_int, modD_int, fdivD_int, ltA_int, leA_int, gtA_int, geA_int, eqD_int, neD_int, pow_10_18, pow_10_60, el, decide_eq_false h, if_false, Bool.false_eq_true]
theorem purse_ok (c k : Int) (h0 : 0 ≤ k) (hk : k < 2 ^ 1000) : ∃ p, m__law_purse [.int c, .int k] = .ok (p, .non) ∧ Ps 1000000 p := by
  have e : (1000000000000000000 : Int) + 9 = 1000000000000000009 := by decide
  have big : (1000000 : Int) ≤ 2 ^ 900 := by decide
  by_cases h : (1000000000000000000 : Int) ≤ c
  · refine ⟨_, ?_, ⟨c - 1000000000000000000, 0, k, rfl, by omega, by omega, by simpa using big⟩⟩
    simp (disch := first | assumption | decide | omega) only [m__law_purse, b__law_purse, runF, m0, sSeq, sSet, sIf, sRet, sRetN, sExpr, sSkip_ok, sSetA, sSetIx, sFor, sPar, sBind, sAug, eVar, eCon_ok, eOp2, eOp1, eCall, eCallM, eCallT, eTup, eLst, eArg, eIf, tVal, tNotF, tAndF, tOrF, eB, eAndF, eOrF, eNotF, eIxA, eIxO, eCatO, ixA_lst, ixA_tup, ixA_scr, eDNew, eDGet, eDGetO, eDPop, eSortK, eMM, aHoleQ, aHole, aNil_ok, aCons, oNone_ok, oSome, eSlice, eSliceL, iSeqA, iSeq, iRange, iArg, ePeek, tPeek, eOwnM, tYes_ok, bind_ok, bind_exc, bind_stuck, of_some, flatD, SW.gName, List.getD_cons_zero, List.getD_cons_succ, List.set_cons_zero, List.set_cons_succ, List.map_cons, List.map_nil, List.length_cons, List.length_nil, List.cons_append, List.nil_append, List.replicate, Nat.reduceAdd, Nat.reduceSub, addD_int, subD_int, negD_int, repD_int, modD_int, fdivD_int, ltA_int, leA_int, gtA_int, geA_int, eqD_int, neD_int, pow_10_18, pow_10_60, decide_eq_true h, if_true, purseD]
  · refine ⟨_, ?_, ⟨mixR c k, 0, c % 1000000000000000009 + k, rfl, (mixR_bound c k).1, by omega, by simpa using big⟩⟩
    simp (disch := first | assumption | decide | omega) only [m__law_purse, b__law_purse, runF, m0, sSeq, sSet, sIf, sRet, sRetN, sExpr, sSkip_ok, sSetA, sSetIx, sFor, sPar, sBind, sAug, eVar, eCon_ok, eOp2, eOp1, eCall, eCallM, eCallT, eTup, eLst, eArg, eIf, tVal, tNotF, tAndF, tOrF, eB, eAndF, eOrF, eNotF, eIxA, eIxO, eCatO, ixA_lst, ixA_tup, ixA_scr, eDNew, eDGet, eDGetO, eDPop, eSortK, eMM, aHoleQ, aHole, aNil_ok, aCons, oNone_ok, oSome, eSlice, eSliceL, iSeqA, iSeq, iRange, iArg, ePeek, tPeek, eOwnM, tYes_ok, bind_ok, bind_exc, bind_stuck, of_some, flatD, SW.gName, List.getD_cons_zero, List.getD_cons_succ, List.set_cons_zero, List.set_cons_succ, List.map_cons, List.map_nil, List.length_cons, List.length_nil, List.cons_append, List.nil_append, List.replicate, Nat.reduceAdd, Nat.reduceSub, addD_int, subD_int, negD_int, repD_int, modD_int, fdivD_int, ltA_int, leA_int, gtA_int, geA_int, eqD_int, neD_int, pow_10_18, pow_10_60, decide_eq_false h, if_false, Bool.false_eq_true, mix_ok c k h0 hk, e, purseD]
theorem Ps.mono {n m : Nat} {p : D} (h : n ≤ m) (hp : Ps m p) : Ps n p := by
  obtain ⟨a, b, c, e, h0, hb, hn⟩ := hp.ex
  exact ⟨a, b, c, e, h0, hb, by omega⟩
theorem addD_lst (a b : List D) (h : a.length + b.length ≤ 1000) : addD (.lst a) (.lst b) = some (.lst (a ++ b)) := by
  show (if a.length + b.length ≤ sizeLine then some (D.lst (a ++ b)) else none) = _
  rw [if_pos (Nat.le_trans h (by decide))]
theorem cells_cut (ns : List Int) {k : Int} (h : 0 ≤ k) : sliceD (.scr ns) none (some k) = some (.lst ((ns.take k.toNat).map D.int)) := by
  show some (D.lst (cutD (ns.map .int) none (some k))) = _
  rw [cut_take _ h, List.map_take]

/-! fractions -/
def eRat : Enc Rat where
  en r := .tup [.int r.num, .int ((r.den : Nat) : Int)]
  py r := .tuple [.int r.num, .int ((r.den : Nat) : Int)]
  dp := 1
  hpy _ := rfl
  heq a b := by
    show (((a.num : Int) == b.num) && ((((a.den : Nat) : Int) == ((b.den : Nat) : Int)) && true)) = _
    rw [Bool.eq_iff_iff, Bool.and_true, Bool.and_eq_true, beq_iff_eq, beq_iff_eq, decide_eq_true_iff]
    constructor
    · rintro ⟨h1, h2⟩; exact Rat.ext h1 (by omega)
    · rintro rfl; exact ⟨rfl, rfl⟩
  lay _ := by simp [PyData.canLay0, PyData.canLayAll0]
  hdp _ := by simp [PyData.depth, PyData.depthAll]
/-! the greatest divisor -/
theorem gcd_loop : ∀ (n a b : Nat), b < n → whileL (tVal (eOp2 neD (eVar 1) (eCon (.int 0)))) (sPar 0 1 (aCons (eVar 1) (aCons (eOp2 modD (eVar 0) (eVar 1)) aNil))) n [some (.int ((a : Nat) : Int)), some (.int ((b : Nat) : Int))] = .ok (.nx [some (.int ((Nat.gcd a b : Nat) : Int)), some (.int 0)])
  | 0, a, b, h => by omega
  | n + 1, a, b, h => by
    by_cases hb : b = 0
    · subst hb
      unfold whileL
      have d0 : ((0 : Nat) : Int) = 0 := rfl
      simp (disch := first | assumption | decide | omega) only [runF, m0, sSeq, sSet, sIf, sRet, sRetN, sExpr, sSkip_ok, sSetA, sSetIx, sFor, sPar, sBind, sAug, eVar, eCon_ok, eOp2, eOp1, eCall, eCallM, eCallT, eTup, eLst, eArg, eIf, tVal, tNotF, tAndF, tOrF, eB, eAndF, eOrF, eNotF, eIxA, eIxO, eCatO, ixA_lst, ixA_tup, ixA_scr, eDNew, eDGet, eDGetO, eDPop, eSortK, eMM, aHoleQ, aHole, aNil_ok, aCons, oNone_ok, oSome, eSlice, eSliceL, iSeqA, iSeq, iRange, iArg, ePeek, tPeek, eOwnM, tYes_ok, bind_ok, bind_exc, bind_stuck, of_some, flatD, SW.gName, List.getD_cons_zero, List.getD_cons_succ, List.set_cons_zero, List.set_cons_succ, List.map_cons, List.map_nil, List.length_cons, List.length_nil, List.cons_append, List.nil_append, List.replicate, Nat.reduceAdd, Nat.reduceSub, addD_int, subD_int, negD_int, repD_int, modD_int, fdivD_int, ltA_int, leA_int, gtA_int, geA_int, eqD_int, neD_int, pow_10_18, pow_10_60, decide_eq_true d0, Bool.not_true, Bool.false_eq_true, if_false, Nat.gcd_zero_right]
      rfl
    · have d0 : ¬ ((b : Nat) : Int) = 0 := by omega
      have dp : (0 : Int) < ((b : Nat) : Int) := by omega
      have hm : a % b < b := Nat.mod_lt _ (by omega)
      have ih := gcd_loop n b (a % b) (by omega)
      have eg : Nat.gcd b (a % b) = Nat.gcd a b := by rw [Nat.gcd_comm a b, Nat.gcd_rec b a, Nat.gcd_comm]
      have em : ((a : Nat) : Int) % ((b : Nat) : Int) = ((a % b : Nat) : Int) := (Int.natCast_emod a b).symm
      rw [eg] at ih
      unfold whileL
      simp (disch := first | assumption | decide | omega) only [tVal, eOp2, eVar, eCon_ok, bind_ok, of_some, neD_int, List.getD_cons_zero, List.getD_cons_succ, decide_eq_false d0, Bool.not_false, if_true, sPar, aCons, aNil_ok, modD_int dp, em, List.set_cons_zero, List.set_cons_succ]
      exact ih
theorem absD_int (i : Int) : absD [.int i] = some (.int ((i.natAbs : Nat) : Int)) := by
  show some (D.int (if i < 0 then -i else i)) = _
  congr 2
  split <;> omega
theorem divisor_ok (a b : Int) : m_divisor [.int a, .int b] = .ok (.int ((Nat.gcd a.natAbs b.natAbs : Nat) : Int), .non) := by
  have e := gcd_loop (b.natAbs + 1) a.natAbs b.natAbs (by omega)
  have ef : fuelInt 1 [some (.int ((a.natAbs : Nat) : Int)), some (.int ((b.natAbs : Nat) : Int))] = b.natAbs + 1 := by
    show ((b.natAbs : Nat) : Int).natAbs + 1 = _
    rw [Int.natAbs_natCast]
  simp (disch := first | assumption | decide | omega) only [m_divisor, b_divisor, runF, m0, sSeq, sSet, sIf, sRet, sRetN, sExpr, sSkip_ok, sSetA, sSetIx, sFor, sPar, sBind, sAug, eVar, eCon_ok, eOp2, eOp1, eCall, eCallM, eCallT, eTup, eLst, eArg, eIf, tVal, tNotF, tAndF, tOrF, eB, eAndF, eOrF, eNotF, eIxA, eIxO, eCatO, ixA_lst, ixA_tup, ixA_scr, eDNew, eDGet, eDGetO, eDPop, eSortK, eMM, aHoleQ, aHole, aNil_ok, aCons, oNone_ok, oSome, eSlice, eSliceL, iSeqA, iSeq, iRange, iArg, ePeek, tPeek, eOwnM, tYes_ok, bind_ok, bind_exc, bind_stuck, of_some, flatD, SW.gName, List.getD_cons_zero, List.getD_cons_succ, List.set_cons_zero, List.set_cons_succ, List.map_cons, List.map_nil, List.length_cons, List.length_nil, List.cons_append, List.nil_append, List.replicate, Nat.reduceAdd, Nat.reduceSub, addD_int, subD_int, negD_int, repD_int, modD_int, fdivD_int, ltA_int, leA_int, gtA_int, geA_int, eqD_int, neD_int, pow_10_18, pow_10_60, absD_int, sWhile, ef]
  rw [e]
  rfl
theorem mkRat_num' (t : Int) {d : Nat} (hd : d ≠ 0) : (mkRat t d).num = t / ((Nat.gcd t.natAbs d : Nat) : Int) := by
  rw [Rat.num_mkRat, if_neg hd, Nat.gcd_comm]
theorem mkRat_den' (t : Int) {d : Nat} (hd : d ≠ 0) : (mkRat t d).den = d / Nat.gcd t.natAbs d := by
  rw [Rat.den_mkRat, if_neg hd, Nat.gcd_comm]
theorem lowest_ok (t : Int) {d : Nat} (hd : d ≠ 0) : m_lowest [.int t, .int ((d : Nat) : Int)] = .ok (eRat.en (mkRat t d), .non) := by
  have e := divisor_ok t ((d : Nat) : Int)
  rw [Int.natAbs_natCast] at e
  have g0 : 0 < Nat.gcd t.natAbs d := Nat.gcd_pos_of_pos_right _ (by omega)
  have gl : Nat.gcd t.natAbs d ≤ d := Nat.le_of_dvd (by omega) (Nat.gcd_dvd_right _ _)
  have g1 : (0 : Int) < ((Nat.gcd t.natAbs d : Nat) : Int) := by omega
  have dn : ¬ ((d : Nat) : Int) < 0 := by omega
  have f1 := fdivD_int (i := t) g1
  have f2 := fdivD_int (i := ((d : Nat) : Int)) g1
  have e2 : ((d : Nat) : Int) / ((Nat.gcd t.natAbs d : Nat) : Int) = ((d / Nat.gcd t.natAbs d : Nat) : Int) := (Int.natCast_ediv _ _).symm
  rw [e2] at f2
  show _ = Out.ok (D.tup [.int (mkRat t d).num, .int (((mkRat t d).den : Nat) : Int)], _)
  rw [mkRat_num' t hd, mkRat_den' t hd]
  simp (disch := first | assumption | decide | omega) only [m_lowest, b_lowest, runF, m0, sSeq, sSet, sIf, sRet, sRetN, sExpr, sSkip_ok, sSetA, sSetIx, sFor, sPar, sBind, sAug, eVar, eCon_ok, eOp2, eOp1, eCall, eCallM, eCallT, eTup, eLst, eArg, eIf, tVal, tNotF, tAndF, tOrF, eB, eAndF, eOrF, eNotF, eIxA, eIxO, eCatO, ixA_lst, ixA_tup, ixA_scr, eDNew, eDGet, eDGetO, eDPop, eSortK, eMM, aHoleQ, aHole, aNil_ok, aCons, oNone_ok, oSome, eSlice, eSliceL, iSeqA, iSeq, iRange, iArg, ePeek, tPeek, eOwnM, tYes_ok, bind_ok, bind_exc, bind_stuck, of_some, flatD, SW.gName, List.getD_cons_zero, List.getD_cons_succ, List.set_cons_zero, List.set_cons_succ, List.map_cons, List.map_nil, List.length_cons, List.length_nil, List.cons_append, List.nil_append, List.replicate, Nat.reduceAdd, Nat.reduceSub, addD_int, subD_int, negD_int, repD_int, modD_int, fdivD_int, ltA_int, leA_int, gtA_int, geA_int, eqD_int, neD_int, pow_10_18, pow_10_60, decide_eq_false dn, Bool.false_eq_true, if_false, e, f1, f2]
/-! how great a fraction is -/
structure Sz (k : Nat) (r : Rat) : Prop where
  n : r.num.natAbs < 2 ^ k
  d : r.den < 2 ^ k
theorem Sz.mono {k m : Nat} {r : Rat} (h : Sz k r) (hm : k ≤ m) : Sz m r := ⟨Nat.lt_of_lt_of_le h.n (Nat.pow_le_pow_right (by decide) hm), Nat.lt_of_lt_of_le h.d (Nat.pow_le_pow_right (by decide) hm)⟩
theorem sz_mk {k : Nat} {t : Int} {d : Nat} (h1 : t.natAbs < 2 ^ k) (h2 : d < 2 ^ k) (h0 : 0 < k) : Sz k (mkRat t d) := by
  by_cases hd : d = 0
  · subst hd
    rw [Rat.mkRat_zero]
    exact ⟨Nat.pow_pos (by decide), Nat.one_lt_two_pow (by omega)⟩
  · refine ⟨?_, ?_⟩
    · rw [mkRat_num' t hd]
      exact Nat.lt_of_le_of_lt (Int.natAbs_ediv_le_natAbs _ _) h1
    · rw [mkRat_den' t hd]
      exact Nat.lt_of_le_of_lt (Nat.div_le_self _ _) h2
theorem mul_lt_pow {a b i j : Nat} (h1 : a < 2 ^ i) (h2 : b < 2 ^ j) : a * b < 2 ^ (i + j) := by
  rw [Nat.pow_add]
  rcases Nat.eq_zero_or_pos b with hb | hb
  · subst hb
    rw [Nat.mul_zero]
    exact Nat.mul_pos (Nat.pow_pos (by decide)) (Nat.pow_pos (by decide))
  · exact Nat.lt_of_lt_of_le (Nat.mul_lt_mul_of_pos_right h1 hb) (Nat.mul_le_mul_left _ (Nat.le_of_lt h2))
theorem den_pos' (r : Rat) : 0 < r.den := Nat.pos_of_ne_zero r.den_nz
theorem Sz.pos {k : Nat} {r : Rat} (h : Sz k r) : 0 < k := by
  rcases Nat.eq_zero_or_pos k with z | z
  · subst z
    have := h.d
    have := den_pos' r
    omega
  · exact z
theorem Sz.mul {i j : Nat} {a b : Rat} (h1 : Sz i a) (h2 : Sz j b) : Sz (i + j) (a * b) := by
  rw [Rat.mul_def']
  refine sz_mk ?_ (mul_lt_pow h1.d h2.d) (by have := h1.pos; omega)
  rw [Int.natAbs_mul]
  exact mul_lt_pow h1.n h2.n
theorem Sz.add {i j : Nat} {a b : Rat} (h1 : Sz i a) (h2 : Sz j b) : Sz (i + j + 1) (a + b) := by
  rw [Rat.add_def']
  have m1 := mul_lt_pow h1.n h2.d
  have m2 := mul_lt_pow h2.n h1.d
  have m3 := mul_lt_pow h1.d h2.d
  have e : (2 : Nat) ^ (i + j + 1) = 2 ^ (i + j) + 2 ^ (i + j) := by rw [Nat.pow_succ]; omega
  have e2 : j + i = i + j := by omega
  rw [e2] at m2
  refine sz_mk ?_ ?_ (by omega)
  · rw [e]
    refine Nat.lt_of_le_of_lt (Int.natAbs_add_le _ _) ?_
    rw [Int.natAbs_mul, Int.natAbs_mul, Int.natAbs_natCast, Int.natAbs_natCast]
    exact Nat.add_lt_add m1 m2
  · rw [e]; exact Nat.lt_of_lt_of_le m3 (Nat.le_add_right _ _)
theorem Sz.neg {i : Nat} {a : Rat} (h : Sz i a) : Sz i (-a) := ⟨by rw [Rat.neg_num, Int.natAbs_neg]; exact h.n, by rw [Rat.neg_den]; exact h.d⟩
theorem den_natAbs (r : Rat) : (((r.den : Nat) : Int)).natAbs = r.den := Int.natAbs_natCast _
theorem bits_nd {i j : Nat} {a b : Rat} (h1 : Sz i a) (h2 : Sz j b) (h : i + j ≤ 100000000) : bits2 a.num ((b.den : Nat) : Int) = true := bits2_of h1.n (by rw [den_natAbs]; exact h2.d) (by omega)
theorem bits_nn {i j : Nat} {a b : Rat} (h1 : Sz i a) (h2 : Sz j b) (h : i + j ≤ 100000000) : bits2 a.num b.num = true := bits2_of h1.n h2.n (by omega)
theorem bits_dd {i j : Nat} {a b : Rat} (h1 : Sz i a) (h2 : Sz j b) (h : i + j ≤ 100000000) : bits2 ((a.den : Nat) : Int) ((b.den : Nat) : Int) = true := bits2_of (by rw [den_natAbs]; exact h1.d) (by rw [den_natAbs]; exact h2.d) (by omega)
theorem r0 (a : Rat) : ixA (eRat.en a) (.int 0) = some (.int a.num) := rfl
theorem r1 (a : Rat) : ixA (eRat.en a) (.int 1) = some (.int ((a.den : Nat) : Int)) := rfl
theorem dd_ne (a b : Rat) : a.den * b.den ≠ 0 := Nat.mul_ne_zero a.den_nz b.den_nz
theorem rat_en {r : Rat} {n : Int} {d : Nat} (h1 : r.num = n) (h2 : r.den = d) : eRat.en r = .tup [.int n, .int ((d : Nat) : Int)] := by subst h1; subst h2; rfl
theorem mkRat_one (n : Int) : (mkRat n 1).num = n ∧ (mkRat n 1).den = 1 := by
  rw [mkRat_num' n (by decide), mkRat_den' n (by decide), Nat.gcd_one_right]
  exact ⟨by simp, rfl⟩
theorem add_whole {a b : Rat} (ha : a.den = 1) (hb : b.den = 1) : eRat.en (a + b) = .tup [.int (a.num + b.num), .int 1] := by
  have e : a + b = mkRat (a.num + b.num) 1 := by rw [Rat.add_def', ha, hb]; simp
  rw [e]
  exact rat_en (mkRat_one _).1 (mkRat_one _).2
theorem mul_whole {a b : Rat} (ha : a.den = 1) (hb : b.den = 1) : eRat.en (a * b) = .tup [.int (a.num * b.num), .int 1] := by
  have e : a * b = mkRat (a.num * b.num) 1 := by rw [Rat.mul_def', ha, hb]
  rw [e]
  exact rat_en (mkRat_one _).1 (mkRat_one _).2
theorem plus_ok {i j : Nat} {a b : Rat} (h1 : Sz i a) (h2 : Sz j b) (h : i + j ≤ 100000000) : m_plus [eRat.en a, eRat.en b] = .ok (eRat.en (a + b), .non) := by
  have e := lowest_ok (a.num * ((b.den : Nat) : Int) + b.num * ((a.den : Nat) : Int)) (dd_ne a b)
  rw [← Rat.add_def', Int.natCast_mul] at e
  have b1 := bits_nd h1 h2 h
  have b2 := bits_nd h2 h1 (by omega)
  have b3 := bits_dd h1 h2 h
  by_cases ha : a.den = 1
  · have ha' : ((a.den : Nat) : Int) = 1 := by omega
    by_cases hb : b.den = 1
    · have hb' : ((b.den : Nat) : Int) = 1 := by omega
      rw [add_whole ha hb]
      simp (disch := first | assumption | decide | omega) only [m_plus, b_plus, runF, m0, sSeq, sSet, sIf, sRet, sRetN, sExpr, sSkip_ok, sSetA, sSetIx, sFor, sPar, sBind, sAug, eVar, eCon_ok, eOp2, eOp1, eCall, eCallM, eCallT, eTup, eLst, eArg, eIf, tVal, tNotF, tAndF, tOrF, eB, eAndF, eOrF, eNotF, eIxA, eIxO, eCatO, ixA_lst, ixA_tup, ixA_scr, eDNew, eDGet, eDGetO, eDPop, eSortK, eMM, aHoleQ, aHole, aNil_ok, aCons, oNone_ok, oSome, eSlice, eSliceL, iSeqA, iSeq, iRange, iArg, ePeek, tPeek, eOwnM, tYes_ok, bind_ok, bind_exc, bind_stuck, of_some, flatD, SW.gName, List.getD_cons_zero, List.getD_cons_succ, List.set_cons_zero, List.set_cons_succ, List.map_cons, List.map_nil, List.length_cons, List.length_nil, List.cons_append, List.nil_append, List.replicate, Nat.reduceAdd, Nat.reduceSub, addD_int, subD_int, negD_int, repD_int, modD_int, fdivD_int, ltA_int, leA_int, gtA_int, geA_int, eqD_int, neD_int, pow_10_18, pow_10_60, r0, r1, decide_eq_true ha', decide_eq_true hb', if_true]
    · have hb' : ¬ ((b.den : Nat) : Int) = 1 := by omega
      simp (disch := first | assumption | decide | omega) only [m_plus, b_plus, runF, m0, sSeq, sSet, sIf, sRet, sRetN, sExpr, sSkip_ok, sSetA, sSetIx, sFor, sPar, sBind, sAug, eVar, eCon_ok, eOp2, eOp1, eCall, eCallM, eCallT, eTup, eLst, eArg, eIf, tVal, tNotF, tAndF, tOrF, eB, eAndF, eOrF, eNotF, eIxA, eIxO, eCatO, ixA_lst, ixA_tup, ixA_scr, eDNew, eDGet, eDGetO, eDPop, eSortK, eMM, aHoleQ, aHole, aNil_ok, aCons, oNone_ok, oSome, eSlice, eSliceL, iSeqA, iSeq, iRange, iArg, ePeek, tPeek, eOwnM, tYes_ok, bind_ok, bind_exc, bind_stuck, of_some, flatD, SW.gName, List.getD_cons_zero, List.getD_cons_succ, List.set_cons_zero, List.set_cons_succ, List.map_cons, List.map_nil, List.length_cons, List.length_nil, List.cons_append, List.nil_append, List.replicate, Nat.reduceAdd, Nat.reduceSub, addD_int, subD_int, negD_int, repD_int, modD_int, fdivD_int, ltA_int, leA_int, gtA_int, geA_int, eqD_int, neD_int, pow_10_18, pow_10_60, r0, r1, decide_eq_true ha', decide_eq_false hb', if_true, Bool.false_eq_true, if_false, e]
  · have ha' : ¬ ((a.den : Nat) : Int) = 1 := by omega
    simp (disch := first | assumption | decide | omega) only [m_plus, b_plus, runF, m0, sSeq, sSet, sIf, sRet, sRetN, sExpr, sSkip_ok, sSetA, sSetIx, sFor, sPar, sBind, sAug, eVar, eCon_ok, eOp2, eOp1, eCall, eCallM, eCallT, eTup, eLst, eArg, eIf, tVal, tNotF, tAndF, tOrF, eB, eAndF, eOrF, eNotF, eIxA, eIxO, eCatO, ixA_lst, ixA_tup, ixA_scr, eDNew, eDGet, eDGetO, eDPop, eSortK, eMM, aHoleQ, aHole, aNil_ok, aCons, oNone_ok, oSome, eSlice, eSliceL, iSeqA, iSeq, iRange, iArg, ePeek, tPeek, eOwnM, tYes_ok, bind_ok, bind_exc, bind_stuck, of_some, flatD, SW.gName, List.getD_cons_zero, List.getD_cons_succ, List.set_cons_zero, List.set_cons_succ, List.map_cons, List.map_nil, List.length_cons, List.length_nil, List.cons_append, List.nil_append, List.replicate, Nat.reduceAdd, Nat.reduceSub, addD_int, subD_int, negD_int, repD_int, modD_int, fdivD_int, ltA_int, leA_int, gtA_int, geA_int, eqD_int, neD_int, pow_10_18, pow_10_60, r0, r1, decide_eq_false ha', Bool.false_eq_true, if_false, e]
theorem times_ok {i j : Nat} {a b : Rat} (h1 : Sz i a) (h2 : Sz j b) (h : i + j ≤ 100000000) : m_times [eRat.en a, eRat.en b] = .ok (eRat.en (a * b), .non) := by
  have e := lowest_ok (a.num * b.num) (dd_ne a b)
  rw [← Rat.mul_def', Int.natCast_mul] at e
  have b1 := bits_nn h1 h2 h
  have b3 := bits_dd h1 h2 h
  by_cases ha : a.den = 1
  · have ha' : ((a.den : Nat) : Int) = 1 := by omega
    by_cases hb : b.den = 1
    · have hb' : ((b.den : Nat) : Int) = 1 := by omega
      rw [mul_whole ha hb]
      simp (disch := first | assumption | decide | omega) only [m_times, b_times, runF, m0, sSeq, sSet, sIf, sRet, sRetN, sExpr, sSkip_ok, sSetA, sSetIx, sFor, sPar, sBind, sAug, eVar, eCon_ok, eOp2, eOp1, eCall, eCallM, eCallT, eTup, eLst, eArg, eIf, tVal, tNotF, tAndF, tOrF, eB, eAndF, eOrF, eNotF, eIxA, eIxO, eCatO, ixA_lst, ixA_tup, ixA_scr, eDNew, eDGet, eDGetO, eDPop, eSortK, eMM, aHoleQ, aHole, aNil_ok, aCons, oNone_ok, oSome, eSlice, eSliceL, iSeqA, iSeq, iRange, iArg, ePeek, tPeek, eOwnM, tYes_ok, bind_ok, bind_exc, bind_stuck, of_some, flatD, SW.gName, List.getD_cons_zero, List.getD_cons_succ, List.set_cons_zero, List.set_cons_succ, List.map_cons, List.map_nil, List.length_cons, List.length_nil, List.cons_append, List.nil_append, List.replicate, Nat.reduceAdd, Nat.reduceSub, addD_int, subD_int, negD_int, repD_int, modD_int, fdivD_int, ltA_int, leA_int, gtA_int, geA_int, eqD_int, neD_int, pow_10_18, pow_10_60, r0, r1, decide_eq_true ha', decide_eq_true hb', if_true]
    · have hb' : ¬ ((b.den : Nat) : Int) = 1 := by omega
      simp (disch := first | assumption | decide | omega) only [m_times, b_times, runF, m0, sSeq, sSet, sIf, sRet, sRetN, sExpr, sSkip_ok, sSetA, sSetIx, sFor, sPar, sBind, sAug, eVar, eCon_ok, eOp2, eOp1, eCall, eCallM, eCallT, eTup, eLst, eArg, eIf, tVal, tNotF, tAndF, tOrF, eB, eAndF, eOrF, eNotF, eIxA, eIxO, eCatO, ixA_lst, ixA_tup, ixA_scr, eDNew, eDGet, eDGetO, eDPop, eSortK, eMM, aHoleQ, aHole, aNil_ok, aCons, oNone_ok, oSome, eSlice, eSliceL, iSeqA, iSeq, iRange, iArg, ePeek, tPeek, eOwnM, tYes_ok, bind_ok, bind_exc, bind_stuck, of_some, flatD, SW.gName, List.getD_cons_zero, List.getD_cons_succ, List.set_cons_zero, List.set_cons_succ, List.map_cons, List.map_nil, List.length_cons, List.length_nil, List.cons_append, List.nil_append, List.replicate, Nat.reduceAdd, Nat.reduceSub, addD_int, subD_int, negD_int, repD_int, modD_int, fdivD_int, ltA_int, leA_int, gtA_int, geA_int, eqD_int, neD_int, pow_10_18, pow_10_60, r0, r1, decide_eq_true ha', decide_eq_false hb', if_true, Bool.false_eq_true, if_false, e]
  · have ha' : ¬ ((a.den : Nat) : Int) = 1 := by omega
    simp (disch := first | assumption | decide | omega) only [m_times, b_times, runF, m0, sSeq, sSet, sIf, sRet, sRetN, sExpr, sSkip_ok, sSetA, sSetIx, sFor, sPar, sBind, sAug, eVar, eCon_ok, eOp2, eOp1, eCall, eCallM, eCallT, eTup, eLst, eArg, eIf, tVal, tNotF, tAndF, tOrF, eB, eAndF, eOrF, eNotF, eIxA, eIxO, eCatO, ixA_lst, ixA_tup, ixA_scr, eDNew, eDGet, eDGetO, eDPop, eSortK, eMM, aHoleQ, aHole, aNil_ok, aCons, oNone_ok, oSome, eSlice, eSliceL, iSeqA, iSeq, iRange, iArg, ePeek, tPeek, eOwnM, tYes_ok, bind_ok, bind_exc, bind_stuck, of_some, flatD, SW.gName, List.getD_cons_zero, List.getD_cons_succ, List.set_cons_zero, List.set_cons_succ, List.map_cons, List.map_nil, List.length_cons, List.length_nil, List.cons_append, List.nil_append, List.replicate, Nat.reduceAdd, Nat.reduceSub, addD_int, subD_int, negD_int, repD_int, modD_int, fdivD_int, ltA_int, leA_int, gtA_int, geA_int, eqD_int, neD_int, pow_10_18, pow_10_60, r0, r1, decide_eq_false ha', Bool.false_eq_true, if_false, e]

/-! fractions of the law; what is a number -/
theorem is_whole_ok (i : Int) : m_is_whole [.int i] = .ok (.bl true, .non) := rfl
theorem gcd_loop2 : ∀ (n a b : Nat) (x y : Option D), b < n → whileL (tVal (eOp2 neD (eVar 3) (eCon (.int 0)))) (sPar 2 3 (aCons (eVar 3) (aCons (eOp2 modD (eVar 2) (eVar 3)) aNil))) n [x, y, some (.int ((a : Nat) : Int)), some (.int ((b : Nat) : Int))] = .ok (.nx [x, y, some (.int ((Nat.gcd a b : Nat) : Int)), some (.int 0)])
  | 0, a, b, x, y, h => by omega
  | n + 1, a, b, x, y, h => by
    by_cases hb : b = 0
    · subst hb
      unfold whileL
      have d0 : ((0 : Nat) : Int) = 0 := rfl
      simp (disch := first | assumption | decide | omega) only [runF, m0, sSeq, sSet, sIf, sRet, sRetN, sExpr, sSkip_ok, sSetA, sSetIx, sFor, sPar, sBind, sAug, eVar, eCon_ok, eOp2, eOp1, eCall, eCallM, eCallT, eTup, eLst, eArg, eIf, tVal, tNotF, tAndF, tOrF, eB, eAndF, eOrF, eNotF, eIxA, eIxO, eCatO, ixA_lst, ixA_tup, ixA_scr, eDNew, eDGet, eDGetO, eDPop, eSortK, eMM, aHoleQ, aHole, aNil_ok, aCons, oNone_ok, oSome, eSlice, eSliceL, iSeqA, iSeq, iRange, iArg, ePeek, tPeek, eOwnM, tYes_ok, bind_ok, bind_exc, bind_stuck, of_some, flatD, SW.gName, List.getD_cons_zero, List.getD_cons_succ, List.set_cons_zero, List.set_cons_succ, List.map_cons, List.map_nil, List.length_cons, List.length_nil, List.cons_append, List.nil_append, List.replicate, Nat.reduceAdd, Nat.reduceSub, addD_int, subD_int, negD_int, repD_int, modD_int, fdivD_int, ltA_int, leA_int, gtA_int, geA_int, eqD_int, neD_int, pow_10_18, pow_10_60, decide_eq_true d0, Bool.not_true, Bool.false_eq_true, if_false, Nat.gcd_zero_right]
      rfl
    · have d0 : ¬ ((b : Nat) : Int) = 0 := by omega
      have dp : (0 : Int) < ((b : Nat) : Int) := by omega
      have hm : a % b < b := Nat.mod_lt _ (by omega)
      have ih := gcd_loop2 n b (a % b) x y (by omega)
      have eg : Nat.gcd b (a % b) = Nat.gcd a b := by rw [Nat.gcd_comm a b, Nat.gcd_rec b a, Nat.gcd_comm]
      have em : ((a : Nat) : Int) % ((b : Nat) : Int) = ((a % b : Nat) : Int) := (Int.natCast_emod a b).symm
      rw [eg] at ih
      unfold whileL
      simp (disch := first | assumption | decide | omega) only [tVal, eOp2, eVar, eCon_ok, bind_ok, of_some, neD_int, List.getD_cons_zero, List.getD_cons_succ, decide_eq_false d0, Bool.not_false, if_true, sPar, aCons, aNil_ok, modD_int dp, em, List.set_cons_zero, List.set_cons_succ]
      exact ih
theorem law_low_ok (t : Int) {d : Nat} (hd : d ≠ 0) : m__law_low [.int t, .int ((d : Nat) : Int)] = .ok (eRat.en (mkRat t d), .non) := by
  have e := gcd_loop2 (d + 1) t.natAbs d (some (.int t)) (some (.int ((d : Nat) : Int))) (by omega)
  have ef : fuelInt 3 [some (.int t), some (.int ((d : Nat) : Int)), some (.int ((t.natAbs : Nat) : Int)), some (.int ((d : Nat) : Int))] = d + 1 := by
    show ((d : Nat) : Int).natAbs + 1 = _
    rw [Int.natAbs_natCast]
  have g0 : 0 < Nat.gcd t.natAbs d := Nat.gcd_pos_of_pos_right _ (by omega)
  have gl : Nat.gcd t.natAbs d ≤ d := Nat.le_of_dvd (by omega) (Nat.gcd_dvd_right _ _)
  have g1 : (0 : Int) < ((Nat.gcd t.natAbs d : Nat) : Int) := by omega
  have f1 := fdivD_int (i := t) g1
  have f2 := fdivD_int (i := ((d : Nat) : Int)) g1
  have e2 : ((d : Nat) : Int) / ((Nat.gcd t.natAbs d : Nat) : Int) = ((d / Nat.gcd t.natAbs d : Nat) : Int) := (Int.natCast_ediv _ _).symm
  rw [e2] at f2
  show _ = Out.ok (D.tup [.int (mkRat t d).num, .int (((mkRat t d).den : Nat) : Int)], _)
  rw [mkRat_num' t hd, mkRat_den' t hd]
  simp (disch := first | assumption | decide | omega) only [m__law_low, b__law_low, runF, m0, sSeq, sSet, sIf, sRet, sRetN, sExpr, sSkip_ok, sSetA, sSetIx, sFor, sPar, sBind, sAug, eVar, eCon_ok, eOp2, eOp1, eCall, eCallM, eCallT, eTup, eLst, eArg, eIf, tVal, tNotF, tAndF, tOrF, eB, eAndF, eOrF, eNotF, eIxA, eIxO, eCatO, ixA_lst, ixA_tup, ixA_scr, eDNew, eDGet, eDGetO, eDPop, eSortK, eMM, aHoleQ, aHole, aNil_ok, aCons, oNone_ok, oSome, eSlice, eSliceL, iSeqA, iSeq, iRange, iArg, ePeek, tPeek, eOwnM, tYes_ok, bind_ok, bind_exc, bind_stuck, of_some, flatD, SW.gName, List.getD_cons_zero, List.getD_cons_succ, List.set_cons_zero, List.set_cons_succ, List.map_cons, List.map_nil, List.length_cons, List.length_nil, List.cons_append, List.nil_append, List.replicate, Nat.reduceAdd, Nat.reduceSub, addD_int, subD_int, negD_int, repD_int, modD_int, fdivD_int, ltA_int, leA_int, gtA_int, geA_int, eqD_int, neD_int, pow_10_18, pow_10_60, absD_int, sWhile, ef]
  rw [e]
  simp (disch := first | assumption | decide | omega) only [runF, m0, sSeq, sSet, sIf, sRet, sRetN, sExpr, sSkip_ok, sSetA, sSetIx, sFor, sPar, sBind, sAug, eVar, eCon_ok, eOp2, eOp1, eCall, eCallM, eCallT, eTup, eLst, eArg, eIf, tVal, tNotF, tAndF, tOrF, eB, eAndF, eOrF, eNotF, eIxA, eIxO, eCatO, ixA_lst, ixA_tup, ixA_scr, eDNew, eDGet, eDGetO, eDPop, eSortK, eMM, aHoleQ, aHole, aNil_ok, aCons, oNone_ok, oSome, eSlice, eSliceL, iSeqA, iSeq, iRange, iArg, ePeek, tPeek, eOwnM, tYes_ok, bind_ok, bind_exc, bind_stuck, of_some, flatD, SW.gName, List.getD_cons_zero, List.getD_cons_succ, List.set_cons_zero, List.set_cons_succ, List.map_cons, List.map_nil, List.length_cons, List.length_nil, List.cons_append, List.nil_append, List.replicate, Nat.reduceAdd, Nat.reduceSub, addD_int, subD_int, negD_int, repD_int, modD_int, fdivD_int, ltA_int, leA_int, gtA_int, geA_int, eqD_int, neD_int, pow_10_18, pow_10_60, f1, f2]
theorem law_plus_ok {i j : Nat} {a b : Rat} (h1 : Sz i a) (h2 : Sz j b) (h : i + j ≤ 100000000) : m__law_plus [eRat.en a, eRat.en b] = .ok (eRat.en (a + b), .non) := by
  have e := law_low_ok (a.num * ((b.den : Nat) : Int) + b.num * ((a.den : Nat) : Int)) (dd_ne a b)
  rw [← Rat.add_def', Int.natCast_mul] at e
  have b1 := bits_nd h1 h2 h
  have b2 := bits_nd h2 h1 (by omega)
  have b3 := bits_dd h1 h2 h
  simp (disch := first | assumption | decide | omega) only [m__law_plus, b__law_plus, runF, m0, sSeq, sSet, sIf, sRet, sRetN, sExpr, sSkip_ok, sSetA, sSetIx, sFor, sPar, sBind, sAug, eVar, eCon_ok, eOp2, eOp1, eCall, eCallM, eCallT, eTup, eLst, eArg, eIf, tVal, tNotF, tAndF, tOrF, eB, eAndF, eOrF, eNotF, eIxA, eIxO, eCatO, ixA_lst, ixA_tup, ixA_scr, eDNew, eDGet, eDGetO, eDPop, eSortK, eMM, aHoleQ, aHole, aNil_ok, aCons, oNone_ok, oSome, eSlice, eSliceL, iSeqA, iSeq, iRange, iArg, ePeek, tPeek, eOwnM, tYes_ok, bind_ok, bind_exc, bind_stuck, of_some, flatD, SW.gName, List.getD_cons_zero, List.getD_cons_succ, List.set_cons_zero, List.set_cons_succ, List.map_cons, List.map_nil, List.length_cons, List.length_nil, List.cons_append, List.nil_append, List.replicate, Nat.reduceAdd, Nat.reduceSub, addD_int, subD_int, negD_int, repD_int, modD_int, fdivD_int, ltA_int, leA_int, gtA_int, geA_int, eqD_int, neD_int, pow_10_18, pow_10_60, r0, r1, e]
theorem law_by_ok {i j : Nat} {a b : Rat} (h1 : Sz i a) (h2 : Sz j b) (h : i + j ≤ 100000000) : m__law_by [eRat.en a, eRat.en b] = .ok (eRat.en (a * b), .non) := by
  have e := law_low_ok (a.num * b.num) (dd_ne a b)
  rw [← Rat.mul_def', Int.natCast_mul] at e
  have b1 := bits_nn h1 h2 h
  have b3 := bits_dd h1 h2 h
  simp (disch := first | assumption | decide | omega) only [m__law_by, b__law_by, runF, m0, sSeq, sSet, sIf, sRet, sRetN, sExpr, sSkip_ok, sSetA, sSetIx, sFor, sPar, sBind, sAug, eVar, eCon_ok, eOp2, eOp1, eCall, eCallM, eCallT, eTup, eLst, eArg, eIf, tVal, tNotF, tAndF, tOrF, eB, eAndF, eOrF, eNotF, eIxA, eIxO, eCatO, ixA_lst, ixA_tup, ixA_scr, eDNew, eDGet, eDGetO, eDPop, eSortK, eMM, aHoleQ, aHole, aNil_ok, aCons, oNone_ok, oSome, eSlice, eSliceL, iSeqA, iSeq, iRange, iArg, ePeek, tPeek, eOwnM, tYes_ok, bind_ok, bind_exc, bind_stuck, of_some, flatD, SW.gName, List.getD_cons_zero, List.getD_cons_succ, List.set_cons_zero, List.set_cons_succ, List.map_cons, List.map_nil, List.length_cons, List.length_nil, List.cons_append, List.nil_append, List.replicate, Nat.reduceAdd, Nat.reduceSub, addD_int, subD_int, negD_int, repD_int, modD_int, fdivD_int, ltA_int, leA_int, gtA_int, geA_int, eqD_int, neD_int, pow_10_18, pow_10_60, r0, r1, e]

theorem isi_rat (r : Rat) : isiD [eRat.en r, .ty .tuple] = some (.bl true) := rfl
theorem len_rat (r : Rat) : lenA [eRat.en r] = some (.int 2) := rfl
theorem is_number_ok (r : Rat) : m_is_number [eRat.en r] = .ok (.bl true, .non) := by
  have e := divisor_ok r.num ((r.den : Nat) : Int)
  rw [Int.natAbs_natCast, r.reduced] at e
  have c1 : ((1 : Nat) : Int) = 1 := rfl
  have d1 : (1 : Int) ≤ ((r.den : Nat) : Int) := by have := den_pos' r; omega
  have d2 : (2 : Int) = 2 := rfl
  simp (disch := first | assumption | decide | omega) only [m_is_number, b_is_number, runF, m0, sSeq, sSet, sIf, sRet, sRetN, sExpr, sSkip_ok, sSetA, sSetIx, sFor, sPar, sBind, sAug, eVar, eCon_ok, eOp2, eOp1, eCall, eCallM, eCallT, eTup, eLst, eArg, eIf, tVal, tNotF, tAndF, tOrF, eB, eAndF, eOrF, eNotF, eIxA, eIxO, eCatO, ixA_lst, ixA_tup, ixA_scr, eDNew, eDGet, eDGetO, eDPop, eSortK, eMM, aHoleQ, aHole, aNil_ok, aCons, oNone_ok, oSome, eSlice, eSliceL, iSeqA, iSeq, iRange, iArg, ePeek, tPeek, eOwnM, tYes_ok, bind_ok, bind_exc, bind_stuck, of_some, flatD, SW.gName, List.getD_cons_zero, List.getD_cons_succ, List.set_cons_zero, List.set_cons_succ, List.map_cons, List.map_nil, List.length_cons, List.length_nil, List.cons_append, List.nil_append, List.replicate, Nat.reduceAdd, Nat.reduceSub, addD_int, subD_int, negD_int, repD_int, modD_int, fdivD_int, ltA_int, leA_int, gtA_int, geA_int, eqD_int, neD_int, pow_10_18, pow_10_60, isi_rat, len_rat, decide_eq_true d2, decide_true, Bool.not_true, Bool.false_eq_true, if_false, r0, r1, is_whole_ok, decide_eq_true d1, e, decide_eq_true c1]
theorem law_not_ok (q : Rat) : m__law_not [eRat.en q] = .ok (eRat.en (-q), .non) := by
  have e : eRat.en (-q) = .tup [.int (-q.num), .int ((q.den : Nat) : Int)] := rat_en (Rat.neg_num q) (Rat.neg_den q)
  have z : (0 : Int) - q.num = -q.num := by omega
  rw [e]
  simp (disch := first | assumption | decide | omega) only [m__law_not, b__law_not, runF, m0, sSeq, sSet, sIf, sRet, sRetN, sExpr, sSkip_ok, sSetA, sSetIx, sFor, sPar, sBind, sAug, eVar, eCon_ok, eOp2, eOp1, eCall, eCallM, eCallT, eTup, eLst, eArg, eIf, tVal, tNotF, tAndF, tOrF, eB, eAndF, eOrF, eNotF, eIxA, eIxO, eCatO, ixA_lst, ixA_tup, ixA_scr, eDNew, eDGet, eDGetO, eDPop, eSortK, eMM, aHoleQ, aHole, aNil_ok, aCons, oNone_ok, oSome, eSlice, eSliceL, iSeqA, iSeq, iRange, iArg, ePeek, tPeek, eOwnM, tYes_ok, bind_ok, bind_exc, bind_stuck, of_some, flatD, SW.gName, List.getD_cons_zero, List.getD_cons_succ, List.set_cons_zero, List.set_cons_succ, List.map_cons, List.map_nil, List.length_cons, List.length_nil, List.cons_append, List.nil_append, List.replicate, Nat.reduceAdd, Nat.reduceSub, addD_int, subD_int, negD_int, repD_int, modD_int, fdivD_int, ltA_int, leA_int, gtA_int, geA_int, eqD_int, neD_int, pow_10_18, pow_10_60, r0, r1, z]

/-- a comprehension that draws -/
theorem compL_turn {α ι : Type} {f : ι → D} {en : α → D} {ρf : D → Rho} {vs : List Nat} {b : D → Rho → Option Rho} {fe : Rho → Out (D × Rho)} {Good : α → Prop} {c : Nat} (st : ∀ i n p, Ps (n + c) p → ∃ ρ1, b (f i) (wipeR (ρf p) vs) = some ρ1 ∧ ∃ v p' ρ3, fe ρ1 = .ok (en v, ρ3) ∧ backR vs (ρf p) ρ3 = ρf p' ∧ Good v ∧ Ps n p') :
    ∀ (l : List ι) (n : Nat) (p : D), Ps (n + l.length * c) p → ∃ (ws : List α) (p' : D), compL vs b tYesF fe (l.map f) (ρf p) = .ok (ws.map en, ρf p') ∧ ws.length = l.length ∧ (∀ v ∈ ws, Good v) ∧ Ps n p'
  | [], n, p, hp => ⟨[], p, rfl, rfl, (by simp), by simpa using hp⟩
  | i :: l, n, p, hp => by
    rw [List.length_cons, Nat.succ_mul] at hp
    obtain ⟨ρ1, e1, v, p1, ρ3, e2, e3, hv, hp1⟩ := st i (n + l.length * c) p (Ps.mono (by omega) hp)
    obtain ⟨ws, p', e4, hl, hg, hp'⟩ := compL_turn st l n p1 hp1
    refine ⟨v :: ws, p', ?_, by simp [hl], ?_, hp'⟩
    · rw [List.map_cons]
      unfold compL
      rw [e1]
      dsimp only [tYesF]
      rw [e2]
      dsimp only
      rw [e3, e4, bind_ok]
      rfl
    · intro x hx
      rcases List.mem_cons.mp hx with rfl | hx
      · exact hv
      · exact hg x hx

/-! sums of words: terms, order, bounds -/
abbrev eTerm : Enc (Wd × Rat) := ePair eWord eRat
abbrev eSum : Enc (List (Wd × Rat)) := eLstOf eTerm
theorem isi_w (w : Wd) : isiD [eWord.en w, .ty .tuple] = some (.bl true) := rfl
theorem len_w (w : Wd) : lenA [eWord.en w] = some (.int w.length) := by
  show some (D.int ((w.map D.int).length : Nat)) = _
  rw [List.length_map]
theorem items_w (w : Wd) : itemsA (eWord.en w) = some (w.map D.int) := rfl
theorem items_l (l : List D) : itemsA (.lst l) = some l := rfl
theorem isi_t (p : Wd × Rat) : isiD [eTerm.en p, .ty .tuple] = some (.bl true) := rfl
theorem len_t (p : Wd × Rat) : lenA [eTerm.en p] = some (.int 2) := rfl
theorem t0 (p : Wd × Rat) : ixA (eTerm.en p) (.int 0) = some (eWord.en p.1) := rfl
theorem t1 (p : Wd × Rat) : ixA (eTerm.en p) (.int 1) = some (eRat.en p.2) := rfl
theorem num_ne {q : Rat} (h : q ≠ 0) : ¬ q.num = 0 := fun z => h (Rat.num_eq_zero.mp z)
def WdOk (c : Nat) (w : Wd) : Prop := w.length ≤ 5 ∧ ∀ x ∈ w, 0 ≤ x ∧ x < (c : Int)
def rkE (w : Wd) : D := .tup [.int (w.length : Nat), eWord.en w]
theorem rank_ok (w : Wd) : m_rank [eWord.en w] = .ok (rkE w, .non) := by
  simp (disch := first | assumption | decide | omega) only [m_rank, b_rank, runF, m0, sSeq, sSet, sIf, sRet, sRetN, sExpr, sSkip_ok, sSetA, sSetIx, sFor, sPar, sBind, sAug, eVar, eCon_ok, eOp2, eOp1, eCall, eCallM, eCallT, eTup, eLst, eArg, eIf, tVal, tNotF, tAndF, tOrF, eB, eAndF, eOrF, eNotF, eIxA, eIxO, eCatO, ixA_lst, ixA_tup, ixA_scr, eDNew, eDGet, eDGetO, eDPop, eSortK, eMM, aHoleQ, aHole, aNil_ok, aCons, oNone_ok, oSome, eSlice, eSliceL, iSeqA, iSeq, iRange, iArg, ePeek, tPeek, eOwnM, tYes_ok, bind_ok, bind_exc, bind_stuck, of_some, flatD, SW.gName, List.getD_cons_zero, List.getD_cons_succ, List.set_cons_zero, List.set_cons_succ, List.map_cons, List.map_nil, List.length_cons, List.length_nil, List.cons_append, List.nil_append, List.replicate, Nat.reduceAdd, Nat.reduceSub, addD_int, subD_int, negD_int, repD_int, modD_int, fdivD_int, ltA_int, leA_int, gtA_int, geA_int, eqD_int, neD_int, pow_10_18, pow_10_60, len_w, rkE]
theorem rkE_py (w : Wd) : (rkE w).py = some (rkKey w) := by
  show (D.pyL [.int (w.length : Nat), eWord.en w]).map PyData.tuple = _
  have : D.pyL [.int (w.length : Nat), eWord.en w] = some [.int (w.length : Nat), eWord.py w] := by
    show (match D.py (.int (w.length : Nat)), D.pyL [eWord.en w] with
      | some p, some ps => some (p :: ps)
      | _, _ => none) = _
    have e2 : D.pyL [eWord.en w] = some [eWord.py w] := pyL_map eWord [w]
    rw [e2]
    rfl
  rw [this]
  rfl
theorem rk_alike (a b : Wd) : PySem.W.alike (rkKey a) (rkKey b) = true := by
  show PySem.W.alike (.tuple [.int (a.length : Nat), .tuple (a.map PyData.int)]) (.tuple [.int (b.length : Nat), .tuple (b.map PyData.int)]) = true
  simp only [PySem.W.alike, PySem.W.alikeAll, alike_ints, Bool.and_true]
theorem rk_depth (a : Wd) : (rkKey a).depth ≤ 2 := by
  show (PyData.tuple [.int (a.length : Nat), eWord.py a]).depth ≤ 2
  simp only [PyData.depth, PyData.depthAll]
  have : (eWord.py a).depth ≤ 1 := eWord.hdp a
  omega
theorem ge_rk (a b : Wd) : geA (rkE a) (rkE b) = some (.bl (!rkLt a b)) := by
  show geD (rkE a) (rkE b) = _
  unfold geD cmpP
  rw [rkE_py, rkE_py]
  dsimp only
  have : alOk (rkKey a) (rkKey b) = true := by
    unfold alOk
    rw [rk_alike, decide_eq_true (Nat.le_trans (rk_depth a) (by decide))]
    rfl
  rw [this, if_pos rfl, rkKey_lt]
/-! bounds of fractions: the bottom's multiple, the greatest -/
structure Bd (N M : Nat) (r : Rat) : Prop where
  d : r.den ∣ N
  n : r.num.natAbs ≤ M * r.den
theorem bd_zero (N M : Nat) : Bd N M 0 := ⟨⟨N, by simp⟩, by simp⟩
theorem Bd.mono {N M M' : Nat} {r : Rat} (h : Bd N M r) (hm : M ≤ M') : Bd N M' r := ⟨h.d, Nat.le_trans h.n (Nat.mul_le_mul_right _ hm)⟩
theorem bd_of {N M : Nat} {r : Rat} {t : Int} {d : Nat} (hd : d ≠ 0) (e : r = mkRat t d) (h1 : d ∣ N) (h2 : t.natAbs ≤ M * d) : Bd N M r := by
  subst e
  have g0 : 0 < Nat.gcd t.natAbs d := Nat.gcd_pos_of_pos_right _ (by omega)
  refine ⟨?_, ?_⟩
  · rw [mkRat_den' t hd]
    exact Nat.dvd_trans (Nat.div_dvd_of_dvd (Nat.gcd_dvd_right _ _)) h1
  · rw [mkRat_num' t hd, mkRat_den' t hd]
    obtain ⟨a, ha⟩ := Nat.gcd_dvd_left t.natAbs d
    obtain ⟨b, hb⟩ := Nat.gcd_dvd_right t.natAbs d
    have e1 : d / Nat.gcd t.natAbs d = b := Nat.div_eq_of_eq_mul_right g0 hb
    have e2 : (t / ((Nat.gcd t.natAbs d : Nat) : Int)).natAbs = a := by
      rw [Int.natAbs_ediv_of_dvd (Int.ofNat_dvd_left.mpr (Nat.gcd_dvd_left _ _)), Int.natAbs_natCast]
      exact Nat.div_eq_of_eq_mul_right g0 ha
    rw [e1, e2]
    rw [ha] at h2
    have h3 : Nat.gcd t.natAbs d * a ≤ M * (Nat.gcd t.natAbs d * b) := by rw [← hb]; exact h2
    have h4 : Nat.gcd t.natAbs d * a ≤ Nat.gcd t.natAbs d * (M * b) := by rw [Nat.mul_left_comm] at h3; exact h3
    exact Nat.le_of_mul_le_mul_left h4 g0
theorem Bd.mul {N M N' M' : Nat} {a b : Rat} (h1 : Bd N M a) (h2 : Bd N' M' b) : Bd (N * N') (M * M') (a * b) := by
  refine bd_of (dd_ne a b) (Rat.mul_def' a b) (Nat.mul_dvd_mul h1.d h2.d) ?_
  rw [Int.natAbs_mul]
  have := Nat.mul_le_mul h1.n h2.n
  calc a.num.natAbs * b.num.natAbs ≤ (M * a.den) * (M' * b.den) := this
    _ = M * M' * (a.den * b.den) := by rw [Nat.mul_mul_mul_comm]
theorem Bd.add {N M M' : Nat} {a b : Rat} (hN : N ≠ 0) (h1 : Bd N M a) (h2 : Bd N M' b) : Bd N (M + M') (a + b) := by
  obtain ⟨x, hx⟩ := h1.d
  obtain ⟨y, hy⟩ := h2.d
  have ha := den_pos' a
  have hb := den_pos' b
  have e : a + b = mkRat (a.num * x + b.num * y) N := by
    have ea : a = mkRat (a.num * x) N := by
      conv => lhs; rw [← Rat.mkRat_self a]
      rw [hx, Rat.mkRat_eq_iff (by omega) (by rw [← hx]; exact hN)]
      rw [Int.natCast_mul, ← Int.mul_assoc, Int.mul_right_comm]
    have eb : b = mkRat (b.num * y) N := by
      conv => lhs; rw [← Rat.mkRat_self b]
      rw [hy, Rat.mkRat_eq_iff (by omega) (by rw [← hy]; exact hN)]
      rw [Int.natCast_mul, ← Int.mul_assoc, Int.mul_right_comm]
    conv => lhs; rw [ea, eb]
    rw [Rat.mkRat_add_mkRat _ _ hN hN, ← Int.add_mul, Rat.mkRat_mul_right hN]
  refine bd_of hN e (Nat.dvd_refl _) ?_
  refine Nat.le_trans (Int.natAbs_add_le _ _) ?_
  rw [Int.natAbs_mul, Int.natAbs_mul, Int.natAbs_natCast, Int.natAbs_natCast, Nat.add_mul]
  have q1 := Nat.mul_le_mul_right x h1.n
  have q2 := Nat.mul_le_mul_right y h2.n
  rw [Nat.mul_assoc, ← hx] at q1
  rw [Nat.mul_assoc, ← hy] at q2
  omega
theorem Bd.neg {N M : Nat} {a : Rat} (h : Bd N M a) : Bd N M (-a) := ⟨by rw [Rat.neg_den]; exact h.d, by rw [Rat.neg_num, Int.natAbs_neg, Rat.neg_den]; exact h.n⟩
theorem Bd.sz {N M k : Nat} {r : Rat} (h : Bd N M r) (hN : N ≠ 0) (h1 : N < 2 ^ k) (h2 : M * N < 2 ^ k) : Sz k r := by
  have hd := Nat.le_of_dvd (by omega) h.d
  exact ⟨Nat.lt_of_le_of_lt (Nat.le_trans h.n (Nat.mul_le_mul_left _ hd)) h2, Nat.lt_of_le_of_lt hd h1⟩

/-! sums that are handed in are looked at -/
theorem is_word_ok {c : Nat} {w : Wd} (h : WdOk c w) : m_is_word [eWord.en w, .int c] = .ok (.bl true, .non) := by
  obtain ⟨ρ', e, y, rfl⟩ := forL_fold (b := gName 2) (g := (sIf (tOrF (tNotF (tVal (eCall m_is_whole (aCons (eVar 2) aNil)))) (tOrF (tVal (eOp2 ltA (eVar 2) (eCon (.int 0)))) (tVal (eOp2 geA (eVar 2) (eVar 1))))) (sRet (eCon (.bl false))) sSkip)) (f := D.int) (σ := Unit) (step := fun s _ => s) (St := fun _ ρ => ∃ y, ρ = [some (eWord.en w), some (.int c), y]) w () [some (eWord.en w), some (.int c), none] ⟨_, rfl⟩ (by
    rintro x hx _ ρ ⟨y, rfl⟩
    refine ⟨_, [some (eWord.en w), some (.int c), some (.int x)], rfl, ?_, _, rfl⟩
    obtain ⟨h0, h1⟩ := h.2 x hx
    have d0 : ¬ x < 0 := by omega
    have d1 : ¬ ((c : Nat) : Int) ≤ x := by omega
    simp (disch := first | assumption | decide | omega) only [runF, m0, sSeq, sSet, sIf, sRet, sRetN, sExpr, sSkip_ok, sSetA, sSetIx, sFor, sPar, sBind, sAug, eVar, eCon_ok, eOp2, eOp1, eCall, eCallM, eCallT, eTup, eLst, eArg, eIf, tVal, tNotF, tAndF, tOrF, eB, eAndF, eOrF, eNotF, eIxA, eIxO, eCatO, ixA_lst, ixA_tup, ixA_scr, eDNew, eDGet, eDGetO, eDPop, eSortK, eMM, aHoleQ, aHole, aNil_ok, aCons, oNone_ok, oSome, eSlice, eSliceL, iSeqA, iSeq, iRange, iArg, ePeek, tPeek, eOwnM, tYes_ok, bind_ok, bind_exc, bind_stuck, of_some, flatD, SW.gName, List.getD_cons_zero, List.getD_cons_succ, List.set_cons_zero, List.set_cons_succ, List.map_cons, List.map_nil, List.length_cons, List.length_nil, List.cons_append, List.nil_append, List.replicate, Nat.reduceAdd, Nat.reduceSub, addD_int, subD_int, negD_int, repD_int, modD_int, fdivD_int, ltA_int, leA_int, gtA_int, geA_int, eqD_int, neD_int, pow_10_18, pow_10_60, is_whole_ok, decide_eq_false d0, decide_eq_false d1, Bool.not_true, Bool.false_eq_true, if_false])
  have d2 : ¬ (5 : Int) < ((w.length : Nat) : Int) := by have := h.1; omega
  simp (disch := first | assumption | decide | omega) only [m_is_word, b_is_word, runF, m0, sSeq, sSet, sIf, sRet, sRetN, sExpr, sSkip_ok, sSetA, sSetIx, sFor, sPar, sBind, sAug, eVar, eCon_ok, eOp2, eOp1, eCall, eCallM, eCallT, eTup, eLst, eArg, eIf, tVal, tNotF, tAndF, tOrF, eB, eAndF, eOrF, eNotF, eIxA, eIxO, eCatO, ixA_lst, ixA_tup, ixA_scr, eDNew, eDGet, eDGetO, eDPop, eSortK, eMM, aHoleQ, aHole, aNil_ok, aCons, oNone_ok, oSome, eSlice, eSliceL, iSeqA, iSeq, iRange, iArg, ePeek, tPeek, eOwnM, tYes_ok, bind_ok, bind_exc, bind_stuck, of_some, flatD, SW.gName, List.getD_cons_zero, List.getD_cons_succ, List.set_cons_zero, List.set_cons_succ, List.map_cons, List.map_nil, List.length_cons, List.length_nil, List.cons_append, List.nil_append, List.replicate, Nat.reduceAdd, Nat.reduceSub, addD_int, subD_int, negD_int, repD_int, modD_int, fdivD_int, ltA_int, leA_int, gtA_int, geA_int, eqD_int, neD_int, pow_10_18, pow_10_60, k_MOST, isi_w, len_w, decide_eq_false d2, Bool.not_true, Bool.false_eq_true, if_false, items_w, e]
theorem is_term_ok {c : Nat} {p : Wd × Rat} (h : WdOk c p.1) (hq : p.2 ≠ 0) : m_is_term [eTerm.en p, .int c] = .ok (.bl true, .non) := by
  have e1 := is_word_ok h
  have e2 := is_number_ok p.2
  have d0 := num_ne hq
  simp (disch := first | assumption | decide | omega) only [m_is_term, b_is_term, runF, m0, sSeq, sSet, sIf, sRet, sRetN, sExpr, sSkip_ok, sSetA, sSetIx, sFor, sPar, sBind, sAug, eVar, eCon_ok, eOp2, eOp1, eCall, eCallM, eCallT, eTup, eLst, eArg, eIf, tVal, tNotF, tAndF, tOrF, eB, eAndF, eOrF, eNotF, eIxA, eIxO, eCatO, ixA_lst, ixA_tup, ixA_scr, eDNew, eDGet, eDGetO, eDPop, eSortK, eMM, aHoleQ, aHole, aNil_ok, aCons, oNone_ok, oSome, eSlice, eSliceL, iSeqA, iSeq, iRange, iArg, ePeek, tPeek, eOwnM, tYes_ok, bind_ok, bind_exc, bind_stuck, of_some, flatD, SW.gName, List.getD_cons_zero, List.getD_cons_succ, List.set_cons_zero, List.set_cons_succ, List.map_cons, List.map_nil, List.length_cons, List.length_nil, List.cons_append, List.nil_append, List.replicate, Nat.reduceAdd, Nat.reduceSub, addD_int, subD_int, negD_int, repD_int, modD_int, fdivD_int, ltA_int, leA_int, gtA_int, geA_int, eqD_int, neD_int, pow_10_18, pow_10_60, isi_t, len_t, t0, t1, r0, decide_true, decide_eq_false d0, Bool.not_true, Bool.not_false, Bool.false_eq_true, if_false, e1, e2]
/-- what a sum handed in keeps -/
structure SumOk (c : Nat) (l : SumT) : Prop where
  sm : Sm l
  wd : ∀ p ∈ l, WdOk c p.1
theorem enumD_map {α : Type} (f : α → D) (z : α) (l : List α) : enumD (l.map f) = (List.range l.length).map fun i => .tup [.int (i : Nat), f (l.getD i z)] := by
  unfold enumD
  rw [List.length_map]
  refine List.ext_getElem? fun i => ?_
  rw [List.getElem?_zipWith, List.getElem?_map, List.getElem?_map]
  by_cases h : i < l.length
  · rw [List.getElem?_range h, List.getElem?_eq_getElem h]
    show some (D.tup [.int (i : Nat), f l[i]]) = some (D.tup [.int (i : Nat), f (l.getD i z)])
    rw [List.getD_eq_getElem?_getD, List.getElem?_eq_getElem h]
    rfl
  · rw [List.getElem?_eq_none (by rw [List.length_range]; omega)]
    rfl
theorem ix_map {α : Type} (f : α → D) (l : List α) (z : α) {i : Nat} (h : i < l.length) : ixD (.lst (l.map f)) (.int ((i : Nat) : Int)) = some (f (l.getD i z)) := by
  show atI (l.map f) ((i : Nat) : Int) = _
  unfold atI ixN
  rw [List.length_map, if_pos (by omega), if_pos (by omega)]
  show (l.map f)[((i : Nat) : Int).toNat]? = _
  rw [Int.toNat_natCast, List.getElem?_map, List.getD_eq_getElem?_getD, List.getElem?_eq_getElem h]
  rfl
theorem rising_at {l : SumT} (h : Rising (l.map (·.1))) {i : Nat} (hi : i + 1 < l.length) (z : Wd × Rat) : rkLt (l.getD i z).1 (l.getD (i + 1) z).1 = true := by
  have q := (List.pairwise_iff_getElem.mp h) i (i + 1) (by rw [List.length_map]; omega) (by rw [List.length_map]; omega) (by omega)
  rw [List.getElem_map, List.getElem_map] at q
  rw [List.getD_eq_getElem?_getD, List.getD_eq_getElem?_getD, List.getElem?_eq_getElem (by omega : i < l.length), List.getElem?_eq_getElem hi]
  exact q
theorem check_sum_ok {c : Nat} {l : SumT} (h : SumOk c l) : m_check_sum [.int c, .lst (l.map eTerm.en)] = .ok (.non, .non) := by
  obtain ⟨ρ', e, y, z, rfl⟩ := forL_fold (b := (gTup 2 (gCons (gName 2) (gCons (gName 3) gNil)))) (g := (sSeq (sIf (tNotF (tVal (eCall m_is_term (aCons (eVar 3) (aCons (eVar 0) aNil))))) sStuck sSkip) (sIf (tAndF (tVal (eOp2 gtA (eVar 2) (eCon (.int 0)))) (tVal (eOp2 geA (eCall m_rank (aCons (eOp2 ixA (eOp2 ixA (eVar 1) (eOp2 subD (eVar 2) (eCon (.int 1)))) (eCon (.int 0))) aNil)) (eCall m_rank (aCons (eOp2 ixA (eVar 3) (eCon (.int 0))) aNil))))) sStuck sSkip)))
    (f := fun i : Nat => D.tup [.int (i : Nat), eTerm.en (l.getD i ([], 0))]) (σ := Unit) (step := fun s _ => s) (St := fun _ ρ => ∃ y z, ρ = [some (.int c), some (.lst (l.map eTerm.en)), y, z]) (List.range l.length) () [some (.int c), some (.lst (l.map eTerm.en)), none, none] ⟨_, _, rfl⟩ (by
    rintro i hi _ ρ ⟨y, z, rfl⟩
    have hi := List.mem_range.mp hi
    have hm : l.getD i ([], 0) ∈ l := by
      rw [List.getD_eq_getElem?_getD, List.getElem?_eq_getElem hi]
      exact List.getElem_mem hi
    have e1 := is_term_ok (h.wd _ hm) (h.sm.nz _ hm)
    refine ⟨_, [some (.int c), some (.lst (l.map eTerm.en)), some (.int (i : Nat)), some (eTerm.en (l.getD i ([], 0)))], rfl, ?_, _, _, rfl⟩
    cases i with
    | zero =>
      have d0 : ¬ (0 : Int) < ((0 : Nat) : Int) := by decide
      simp (disch := first | assumption | decide | omega) only [runF, m0, sSeq, sSet, sIf, sRet, sRetN, sExpr, sSkip_ok, sSetA, sSetIx, sFor, sPar, sBind, sAug, eVar, eCon_ok, eOp2, eOp1, eCall, eCallM, eCallT, eTup, eLst, eArg, eIf, tVal, tNotF, tAndF, tOrF, eB, eAndF, eOrF, eNotF, eIxA, eIxO, eCatO, ixA_lst, ixA_tup, ixA_scr, eDNew, eDGet, eDGetO, eDPop, eSortK, eMM, aHoleQ, aHole, aNil_ok, aCons, oNone_ok, oSome, eSlice, eSliceL, iSeqA, iSeq, iRange, iArg, ePeek, tPeek, eOwnM, tYes_ok, bind_ok, bind_exc, bind_stuck, of_some, flatD, SW.gName, List.getD_cons_zero, List.getD_cons_succ, List.set_cons_zero, List.set_cons_succ, List.map_cons, List.map_nil, List.length_cons, List.length_nil, List.cons_append, List.nil_append, List.replicate, Nat.reduceAdd, Nat.reduceSub, addD_int, subD_int, negD_int, repD_int, modD_int, fdivD_int, ltA_int, leA_int, gtA_int, geA_int, eqD_int, neD_int, pow_10_18, pow_10_60, e1, decide_eq_false d0, Bool.not_true, Bool.false_eq_true, if_false]
    | succ i =>
      have d0 : (0 : Int) < ((i + 1 : Nat) : Int) := by omega
      have ei : ((i + 1 : Nat) : Int) - 1 = ((i : Nat) : Int) := by omega
      have x1 := ix_map eTerm.en l ([], 0) (i := i) (by omega)
      have g1 := ge_rk (l.getD i ([], 0)).1 (l.getD (i + 1) ([], 0)).1
      rw [rising_at h.sm.up hi] at g1
      simp (disch := first | assumption | decide | omega) only [runF, m0, sSeq, sSet, sIf, sRet, sRetN, sExpr, sSkip_ok, sSetA, sSetIx, sFor, sPar, sBind, sAug, eVar, eCon_ok, eOp2, eOp1, eCall, eCallM, eCallT, eTup, eLst, eArg, eIf, tVal, tNotF, tAndF, tOrF, eB, eAndF, eOrF, eNotF, eIxA, eIxO, eCatO, ixA_lst, ixA_tup, ixA_scr, eDNew, eDGet, eDGetO, eDPop, eSortK, eMM, aHoleQ, aHole, aNil_ok, aCons, oNone_ok, oSome, eSlice, eSliceL, iSeqA, iSeq, iRange, iArg, ePeek, tPeek, eOwnM, tYes_ok, bind_ok, bind_exc, bind_stuck, of_some, flatD, SW.gName, List.getD_cons_zero, List.getD_cons_succ, List.set_cons_zero, List.set_cons_succ, List.map_cons, List.map_nil, List.length_cons, List.length_nil, List.cons_append, List.nil_append, List.replicate, Nat.reduceAdd, Nat.reduceSub, addD_int, subD_int, negD_int, repD_int, modD_int, fdivD_int, ltA_int, leA_int, gtA_int, geA_int, eqD_int, neD_int, pow_10_18, pow_10_60, e1, decide_eq_true d0, ei, x1, t0, rank_ok, g1, Bool.not_true, Bool.false_eq_true, if_false, if_true])
  have en := enumD_map eTerm.en ([], 0) l
  have ei : iEnum1 [.lst (l.map eTerm.en)] = some ((List.range l.length).map fun i => .tup [.int (i : Nat), eTerm.en (l.getD i ([], 0))]) := by
    show some (enumD (l.map eTerm.en)) = _
    rw [en]
  simp (disch := first | assumption | decide | omega) only [m_check_sum, b_check_sum, runF, m0, sSeq, sSet, sIf, sRet, sRetN, sExpr, sSkip_ok, sSetA, sSetIx, sFor, sPar, sBind, sAug, eVar, eCon_ok, eOp2, eOp1, eCall, eCallM, eCallT, eTup, eLst, eArg, eIf, tVal, tNotF, tAndF, tOrF, eB, eAndF, eOrF, eNotF, eIxA, eIxO, eCatO, ixA_lst, ixA_tup, ixA_scr, eDNew, eDGet, eDGetO, eDPop, eSortK, eMM, aHoleQ, aHole, aNil_ok, aCons, oNone_ok, oSome, eSlice, eSliceL, iSeqA, iSeq, iRange, iArg, ePeek, tPeek, eOwnM, tYes_ok, bind_ok, bind_exc, bind_stuck, of_some, flatD, SW.gName, List.getD_cons_zero, List.getD_cons_succ, List.set_cons_zero, List.set_cons_succ, List.map_cons, List.map_nil, List.length_cons, List.length_nil, List.cons_append, List.nil_append, List.replicate, Nat.reduceAdd, Nat.reduceSub, addD_int, subD_int, negD_int, repD_int, modD_int, fdivD_int, ltA_int, leA_int, gtA_int, geA_int, eqD_int, neD_int, pow_10_18, pow_10_60, ei, e]

/-! dicts of sums, sorted words, the told sum -/
abbrev dS (l : SumT) : D := .dct (dE eRat.en l)
theorem ixA_E {l : SumT} {w : Wd} {q : Rat} (h : getT l w = some q) : ixA (dS l) (eWord.en w) = some (eRat.en q) := by
  show (keyT (eWord.en w)).bind (valD _) = _
  rw [keyT_word]
  show valD (dE eRat.en l) (wk w) = _
  rw [valD_E, h]
  rfl
theorem inA_E (l : SumT) (w : Wd) : inA (eWord.en w) (dS l) = some (.bl (getT l w).isSome) := by
  unfold inA inDct
  dsimp only
  rw [keyT_word]
  show some (D.bl (valD (dE eRat.en l) (wk w)).isSome) = _
  rw [valD_E, Option.isSome_map]
theorem items_E (l : SumT) : itemsA (dS l) = some ((l.map (·.1)).map eWord.en) := by
  show some ((dE eRat.en l).map fun p => keyB p.1) = _
  rw [keys_E]
theorem get_E (l : SumT) (w : Wd) : ((getT l w).map eRat.en).getD (eRat.en 0) = eRat.en (coef l w) := by
  unfold coef
  cases getT l w <;> rfl
theorem del_none {l : SumT} {w : Wd} (h : getT l w = none) : delT l w = l := by
  refine List.filter_eq_self.mpr fun p hp => ?_
  have := getT_none.mp h
  refine decide_eq_true fun e => this ?_
  rw [← e]
  exact List.mem_map.mpr ⟨p, hp, rfl⟩
theorem len_small {n : Nat} (h : n ≤ 200000) : n < sizeLine := by rw [sizeLine_is]; omega
theorem nought_ok : k_NOUGHT = eRat.en 0 := rfl
theorem rk_sortable (ws : List Wd) : keysOk (ws.map rkKey) = true := by
  unfold keysOk
  rw [Bool.and_eq_true, Bool.and_eq_true]
  refine ⟨⟨List.all_eq_true.mpr fun p hp => List.all_eq_true.mpr fun q hq => ?_, Bool.or_eq_true_iff.mpr (.inl (List.all_eq_true.mpr fun p hp => ?_))⟩, List.all_eq_true.mpr fun p hp => ?_⟩
  · obtain ⟨a, _, rfl⟩ := List.mem_map.mp hp
    obtain ⟨b, _, rfl⟩ := List.mem_map.mp hq
    exact rk_alike a b
  · obtain ⟨a, _, rfl⟩ := List.mem_map.mp hp
    rfl
  · obtain ⟨a, _, rfl⟩ := List.mem_map.mp hp
    exact decide_eq_true (Nat.le_trans (rk_depth a) (by decide))
theorem keysOf_rk {m : List D → Out (D × D)} (hm : ∀ w, m [eWord.en w] = .ok (rkE w, .non)) : ∀ ws : List Wd, keysOf m (ws.map eWord.en) = some (ws.map fun w => (rkE w, rkKey w))
  | [] => rfl
  | w :: ws => by
    rw [List.map_cons]
    unfold keysOf
    rw [hm]
    dsimp only
    rw [rkE_py, keysOf_rk hm ws]
    rfl
theorem sortK_rk {m : List D → Out (D × D)} (hm : ∀ w, m [eWord.en w] = .ok (rkE w, .non)) (ws : List Wd) : sortK m (ws.map eWord.en) = some ((ws.mergeSort rkLe).map eWord.en) := by
  unfold sortK
  rw [keysOf_rk hm]
  dsimp only
  have e : (ws.map fun w => (rkE w, rkKey w)).map (·.2) = ws.map rkKey := by rw [List.map_map]; rfl
  rw [e, rk_sortable, if_pos rfl]
  congr 1
  refine (List.map_mergeSort (r := rkLe) (s := PySem.W.dataLe false (keyFn m)) (f := eWord.en) (l := ws) fun a _ b _ => ?_).symm
  have kf : ∀ w, keyFn m (eWord.en w) = rkKey w := fun w => by
    unfold keyFn
    rw [hm]
    dsimp only
    rw [rkE_py]
  show rkLe a b = !PySem.W.dataLt (keyFn m (eWord.en b)) (keyFn m (eWord.en a))
  rw [kf, kf, rkKey_lt]
  rfl
theorem told_gen {m : List D → Out (D × D)} (hm : ∀ w, m [eWord.en w] = .ok (rkE w, .non)) {l : SumT} (g : Good l) : runF 2 none (sRet (eComp [1] (iSeqA (eSortK m (eVar 0))) (gName 1) tYesF (eTup (aCons (eVar 1) (aCons (eOp2 ixA (eVar 0) (eVar 1)) aNil))))) [dS l] = .ok (eSum.en (toldT l), .non) := by
  have e := compL_of (vs := [1]) (b := gName 1) (tt := tYesF) (fe := (eTup (aCons (eVar 1) (aCons (eOp2 ixA (eVar 0) (eVar 1)) aNil)))) (f := eWord.en) (ρ := [some (dS l), none]) (c := fun _ => true) (h := fun w => eTerm.en (w, coef l w)) ((l.map (·.1)).mergeSort rkLe) (by
    intro w hw
    have hw := (List.mergeSort_perm _ _).mem_iff.mp hw
    obtain ⟨p, hp, rfl⟩ := List.mem_map.mp hw
    have h1 := getT_of_mem g.nd (q := p.2) hp
    have x1 := ixA_E h1
    have h2 : coef l p.1 = p.2 := by unfold coef; rw [h1]; rfl
    refine ⟨[some (dS l), some (eWord.en p.1)], rfl, [some (dS l), some (eWord.en p.1)], rfl, (fun z => by cases z), fun _ => ⟨[some (dS l), some (eWord.en p.1)], ?_, rfl⟩⟩
    rw [h2]
    simp (disch := first | assumption | decide | omega) only [runF, m0, sSeq, sSet, sIf, sRet, sRetN, sExpr, sSkip_ok, sSetA, sSetIx, sFor, sPar, sBind, sAug, eVar, eCon_ok, eOp2, eOp1, eCall, eCallM, eCallT, eTup, eLst, eArg, eIf, tVal, tNotF, tAndF, tOrF, eB, eAndF, eOrF, eNotF, eIxA, eIxO, eCatO, ixA_lst, ixA_tup, ixA_scr, eDNew, eDGet, eDGetO, eDPop, eSortK, eMM, aHoleQ, aHole, aNil_ok, aCons, oNone_ok, oSome, eSlice, eSliceL, iSeqA, iSeq, iRange, iArg, ePeek, tPeek, eOwnM, tYes_ok, bind_ok, bind_exc, bind_stuck, of_some, flatD, SW.gName, List.getD_cons_zero, List.getD_cons_succ, List.set_cons_zero, List.set_cons_succ, List.map_cons, List.map_nil, List.length_cons, List.length_nil, List.cons_append, List.nil_append, List.replicate, Nat.reduceAdd, Nat.reduceSub, addD_int, subD_int, negD_int, repD_int, modD_int, fdivD_int, ltA_int, leA_int, gtA_int, geA_int, eqD_int, neD_int, pow_10_18, pow_10_60, x1]
    rfl)
  rw [List.filter_eq_self.mpr fun a _ => rfl] at e
  have s := sortK_rk hm (l.map (·.1))
  have en : eSum.en (toldT l) = .lst (((l.map (·.1)).mergeSort rkLe).map fun w => eTerm.en (w, coef l w)) := by
    show D.lst ((toldT l).map eTerm.en) = _
    unfold toldT
    rw [List.map_map]
    rfl
  rw [en]
  simp (disch := first | assumption | decide | omega) only [runF, m0, sSeq, sSet, sIf, sRet, sRetN, sExpr, sSkip_ok, sSetA, sSetIx, sFor, sPar, sBind, sAug, eVar, eCon_ok, eOp2, eOp1, eCall, eCallM, eCallT, eTup, eLst, eArg, eIf, tVal, tNotF, tAndF, tOrF, eB, eAndF, eOrF, eNotF, eIxA, eIxO, eCatO, ixA_lst, ixA_tup, ixA_scr, eDNew, eDGet, eDGetO, eDPop, eSortK, eMM, aHoleQ, aHole, aNil_ok, aCons, oNone_ok, oSome, eSlice, eSliceL, iSeqA, iSeq, iRange, iArg, ePeek, tPeek, eOwnM, tYes_ok, bind_ok, bind_exc, bind_stuck, of_some, flatD, SW.gName, List.getD_cons_zero, List.getD_cons_succ, List.set_cons_zero, List.set_cons_succ, List.map_cons, List.map_nil, List.length_cons, List.length_nil, List.cons_append, List.nil_append, List.replicate, Nat.reduceAdd, Nat.reduceSub, addD_int, subD_int, negD_int, repD_int, modD_int, fdivD_int, ltA_int, leA_int, gtA_int, geA_int, eqD_int, neD_int, pow_10_18, pow_10_60, items_E, Option.bind_some, s, items_l, eComp, e]
theorem told_sum_ok {l : SumT} (g : Good l) : m_told_sum [dS l] = .ok (eSum.en (toldT l), .non) := told_gen rank_ok g
/-- terms added, each within bounds -/
structure Acc (N M k : Nat) (l : SumT) : Prop where
  good : Good l
  bd : ∀ w, Bd N (k * M) (coef l w)
  len : l.length ≤ k
theorem acc_nil (N M : Nat) : Acc N M 0 [] := ⟨good_nil, fun w => bd_zero _ _, Nat.le_refl _⟩
structure Small (N M : Nat) : Prop where
  n0 : N ≠ 0
  n : N < 2 ^ 4000
  m : 100000 * M * N < 2 ^ 4000
theorem Acc.add {N M k : Nat} {l : SumT} {w : Wd} {q : Rat} (hN : N ≠ 0) (h : Acc N M k l) (hq : Bd N M q) : Acc N M (k + 1) (addT l w q) := by
  refine ⟨h.good.add w q, fun v => ?_, Nat.le_trans (add_len _ _ _) (Nat.add_le_add_right h.len 1)⟩
  rw [coef_add h.good]
  have e : (k + 1) * M = k * M + M := by rw [Nat.add_mul, Nat.one_mul]
  rw [e]
  refine Bd.add hN (h.bd v) ?_
  split
  · exact hq
  · exact bd_zero _ _
theorem Acc.sz {N M k : Nat} {l : SumT} (h : Acc N M k l) (s : Small N M) (hk : k ≤ 100000) (w : Wd) : Sz 4000 (coef l w) := (h.bd w).sz s.n0 s.n (Nat.lt_of_le_of_lt (Nat.mul_le_mul_right _ (Nat.mul_le_mul_right _ hk)) s.m)
theorem Small.sz {N M : Nat} (s : Small N M) {q : Rat} (h : Bd N M q) : Sz 4000 q := h.sz s.n0 s.n (Nat.lt_of_le_of_lt (Nat.mul_le_mul_right _ (by omega : M ≤ 100000 * M)) s.m)
theorem put_to_g {i j : Nat} {l : SumT} {w : Wd} {q : Rat} (h1 : Sz i (coef l w)) (h2 : Sz j q) (hij : i + j ≤ 100000000) (hl : l.length ≤ 200000) : m_put_to [dS l, eWord.en w, eRat.en q] = .ok (.non, dS (addT l w q)) := by
  have e1 := plus_ok h1 h2 hij
  have hs : (dE eRat.en l).length < sizeLine := by rw [dE_len]; exact len_small hl
  by_cases z : coef l w + q = 0
  · have d0 : (coef l w + q).num = 0 := by rw [z]; rfl
    have ea : addT l w q = delT l w := by unfold addT; rw [if_pos z]
    rw [ea]
    cases hg : getT l w with
    | none =>
      have i1 := inA_E l w
      rw [hg] at i1
      rw [del_none hg]
      simp (disch := first | assumption | decide | omega) only [m_put_to, b_put_to, runF, m0, sSeq, sSet, sIf, sRet, sRetN, sExpr, sSkip_ok, sSetA, sSetIx, sFor, sPar, sBind, sAug, eVar, eCon_ok, eOp2, eOp1, eCall, eCallM, eCallT, eTup, eLst, eArg, eIf, tVal, tNotF, tAndF, tOrF, eB, eAndF, eOrF, eNotF, eIxA, eIxO, eCatO, ixA_lst, ixA_tup, ixA_scr, eDNew, eDGet, eDGetO, eDPop, eSortK, eMM, aHoleQ, aHole, aNil_ok, aCons, oNone_ok, oSome, eSlice, eSliceL, iSeqA, iSeq, iRange, iArg, ePeek, tPeek, eOwnM, tYes_ok, bind_ok, bind_exc, bind_stuck, of_some, flatD, SW.gName, List.getD_cons_zero, List.getD_cons_succ, List.set_cons_zero, List.set_cons_succ, List.map_cons, List.map_nil, List.length_cons, List.length_nil, List.cons_append, List.nil_append, List.replicate, Nat.reduceAdd, Nat.reduceSub, addD_int, subD_int, negD_int, repD_int, modD_int, fdivD_int, ltA_int, leA_int, gtA_int, geA_int, eqD_int, neD_int, pow_10_18, pow_10_60, Option.getD_some, keyT_word, Option.map_some, valD_E, nought_ok, get_E, e1, r0, decide_eq_true d0, Bool.not_true, Bool.false_eq_true, if_false, i1, Option.isSome_none]
    | some y =>
      have i1 := inA_E l w
      rw [hg] at i1
      have v1 : valD (dE eRat.en l) (wk w) = some (eRat.en y) := by rw [valD_E, hg]; rfl
      have v2 : (some (eRat.en y)).getD (eRat.en 0) = eRat.en (coef l w) := by unfold coef; rw [hg]; rfl
      simp (disch := first | assumption | decide | omega) only [m_put_to, b_put_to, runF, m0, sSeq, sSet, sIf, sRet, sRetN, sExpr, sSkip_ok, sSetA, sSetIx, sFor, sPar, sBind, sAug, eVar, eCon_ok, eOp2, eOp1, eCall, eCallM, eCallT, eTup, eLst, eArg, eIf, tVal, tNotF, tAndF, tOrF, eB, eAndF, eOrF, eNotF, eIxA, eIxO, eCatO, ixA_lst, ixA_tup, ixA_scr, eDNew, eDGet, eDGetO, eDPop, eSortK, eMM, aHoleQ, aHole, aNil_ok, aCons, oNone_ok, oSome, eSlice, eSliceL, iSeqA, iSeq, iRange, iArg, ePeek, tPeek, eOwnM, tYes_ok, bind_ok, bind_exc, bind_stuck, of_some, flatD, SW.gName, List.getD_cons_zero, List.getD_cons_succ, List.set_cons_zero, List.set_cons_succ, List.map_cons, List.map_nil, List.length_cons, List.length_nil, List.cons_append, List.nil_append, List.replicate, Nat.reduceAdd, Nat.reduceSub, addD_int, subD_int, negD_int, repD_int, modD_int, fdivD_int, ltA_int, leA_int, gtA_int, geA_int, eqD_int, neD_int, pow_10_18, pow_10_60, Option.getD_some, keyT_word, Option.map_some, Option.bind_some, v1, v2, nought_ok, e1, r0, decide_eq_true d0, Bool.not_true, Bool.false_eq_true, if_false, if_true, i1, Option.isSome_some, dropD_E]
  · have d0 : ¬ (coef l w + q).num = 0 := num_ne z
    have ea : addT l w q = setT l w (coef l w + q) := by unfold addT; rw [if_neg z]
    rw [ea]
    simp (disch := first | assumption | decide | omega) only [m_put_to, b_put_to, runF, m0, sSeq, sSet, sIf, sRet, sRetN, sExpr, sSkip_ok, sSetA, sSetIx, sFor, sPar, sBind, sAug, eVar, eCon_ok, eOp2, eOp1, eCall, eCallM, eCallT, eTup, eLst, eArg, eIf, tVal, tNotF, tAndF, tOrF, eB, eAndF, eOrF, eNotF, eIxA, eIxO, eCatO, ixA_lst, ixA_tup, ixA_scr, eDNew, eDGet, eDGetO, eDPop, eSortK, eMM, aHoleQ, aHole, aNil_ok, aCons, oNone_ok, oSome, eSlice, eSliceL, iSeqA, iSeq, iRange, iArg, ePeek, tPeek, eOwnM, tYes_ok, bind_ok, bind_exc, bind_stuck, of_some, flatD, SW.gName, List.getD_cons_zero, List.getD_cons_succ, List.set_cons_zero, List.set_cons_succ, List.map_cons, List.map_nil, List.length_cons, List.length_nil, List.cons_append, List.nil_append, List.replicate, Nat.reduceAdd, Nat.reduceSub, addD_int, subD_int, negD_int, repD_int, modD_int, fdivD_int, ltA_int, leA_int, gtA_int, geA_int, eqD_int, neD_int, pow_10_18, pow_10_60, Option.getD_some, keyT_word, Option.map_some, Option.bind_some, valD_E, nought_ok, get_E, e1, r0, decide_eq_false d0, Bool.not_false, if_true, hs, putD_E]
theorem put_to_ok {l : SumT} {w : Wd} {q : Rat} (h1 : Sz 4000 (coef l w)) (h2 : Sz 4000 q) (hl : l.length ≤ 200000) : m_put_to [dS l, eWord.en w, eRat.en q] = .ok (.non, dS (addT l w q)) := put_to_g h1 h2 (by decide) hl
def addAll (ts acc : SumT) : SumT := ts.foldl (fun a p => addT a p.1 p.2) acc
theorem addAll_app (a b s : SumT) : addAll (a ++ b) s = addAll b (addAll a s) := by unfold addAll; rw [List.foldl_append]
theorem good_addAll : ∀ {ts acc : SumT}, Good acc → Good (addAll ts acc)
  | [], _, g => g
  | p :: ts, _, g => good_addAll (ts := ts) (g.add p.1 p.2)
theorem lin_addAll {f : Wd → Rat} : ∀ {ts acc : SumT}, Good acc → linS f (addAll ts acc) = linS f acc + linS f ts
  | [], acc, g => by show linS f acc = linS f acc + 0; grind
  | p :: ts, acc, g => by
    show linS f (addAll ts (addT acc p.1 p.2)) = linS f acc + (p.2 * f p.1 + linS f ts)
    rw [lin_addAll (g.add p.1 p.2), lin_add g.nd]; grind
theorem Acc.all {N M : Nat} (hN : N ≠ 0) : ∀ {ts : SumT} {k : Nat} {acc : SumT}, Acc N M k acc → (∀ p ∈ ts, Bd N M p.2) → Acc N M (k + ts.length) (addAll ts acc)
  | [], _, _, h, _ => h
  | p :: ts, k, acc, h, hb => by
    have := Acc.all hN (ts := ts) (h.add (w := p.1) hN (hb p List.mem_cons_self)) fun r hr => hb r (List.mem_cons_of_mem _ hr)
    rw [List.length_cons, Nat.add_comm ts.length 1, ← Nat.add_assoc]
    exact this
/-- all words of the first with those of the second behind -/
def joinL (A B : SumT) : SumT := A.flatMap fun p => B.map fun r => (p.1 ++ r.1, p.2 * r.2)
def joinT (A B : SumT) : SumT := addAll (joinL A B) []
theorem joinT_good (A B : SumT) : Good (joinT A B) := good_addAll good_nil
theorem lin_joinT (f : Wd → Rat) (A B : SumT) : linS f (joinT A B) = linS (fun u => linS (fun v => f (u ++ v)) B) A := by
  unfold joinT
  rw [lin_addAll good_nil]
  have h0 : linS f [] = 0 := rfl
  rw [h0]
  induction A with
  | nil => show (0 : Rat) + 0 = 0; grind
  | cons p A ih =>
    have e : joinL (p :: A) B = (B.map fun r => (p.1 ++ r.1, p.2 * r.2)) ++ joinL A B := rfl
    rw [e, lin_append]
    have e2 : linS f (B.map fun r => (p.1 ++ r.1, p.2 * r.2)) = p.2 * linS (fun v => f (p.1 ++ v)) B := by
      clear ih e
      induction B with
      | nil => show (0 : Rat) = p.2 * 0; grind
      | cons r B ih =>
        show p.2 * r.2 * f (p.1 ++ r.1) + linS f (B.map _) = p.2 * (r.2 * f (p.1 ++ r.1) + linS (fun v => f (p.1 ++ v)) B)
        rw [ih]; grind
    rw [e2]
    show _ = p.2 * linS (fun v => f (p.1 ++ v)) B + linS (fun u => linS (fun v => f (u ++ v)) B) A
    grind
theorem joinL_len (A B : SumT) : (joinL A B).length = A.length * B.length := by
  induction A with
  | nil => simp [joinL]
  | cons p A ih =>
    have e : joinL (p :: A) B = (B.map fun r => (p.1 ++ r.1, p.2 * r.2)) ++ joinL A B := rfl
    rw [e, List.length_append, ih, List.length_map, List.length_cons, Nat.add_mul]
    omega
theorem addD_w (a b : Wd) (h : a.length + b.length ≤ 1000) : addD (eWord.en a) (eWord.en b) = some (eWord.en (a ++ b)) := by
  show (if _ then some (D.tup (a.map D.int ++ b.map D.int)) else none) = some (D.tup ((a ++ b).map D.int))
  rw [List.map_append, if_pos]
  rw [List.length_map, List.length_map, sizeLine_is]
  omega

/-! sums and tables within bounds -/
/-- a sum and what bounds it: letters, ways, terms, numbers -/
structure SumB (c k n N M : Nat) (A : SumT) : Prop where
  sm : Sm A
  lt : ∀ p ∈ A, ∀ x ∈ p.1, 0 ≤ x ∧ x < (c : Int)
  ln : ∀ p ∈ A, p.1.length ≤ k
  bd : ∀ p ∈ A, Bd N M p.2
  sz : A.length ≤ n
theorem mem_add {l : SumT} {w : Wd} {q : Rat} {p : Wd × Rat} (h : p ∈ addT l w q) : p.1 = w ∨ p ∈ l := by
  unfold addT at h
  split at h
  · exact .inr (List.mem_filter.mp h).1
  · rcases mem_set h with e | h
    · exact .inl (by rw [e])
    · exact .inr h
theorem mem_addAll : ∀ {ts acc : SumT} {p : Wd × Rat}, p ∈ addAll ts acc → (∃ t ∈ ts, p.1 = t.1) ∨ p ∈ acc
  | [], _, _, h => .inr h
  | t :: ts, acc, p, h => by
    rcases mem_addAll (ts := ts) (acc := addT acc t.1 t.2) h with ⟨x, hx, e⟩ | h
    · exact .inl ⟨x, List.mem_cons_of_mem _ hx, e⟩
    · rcases mem_add h with e | h
      · exact .inl ⟨t, List.mem_cons_self, e⟩
      · exact .inr h
theorem coef_at {l : SumT} (g : Good l) {p : Wd × Rat} (h : p ∈ l) : coef l p.1 = p.2 := by
  unfold coef
  rw [getT_of_mem g.nd (q := p.2) h]
  rfl
/-- a table and what bounds it -/
structure DicB (c k n N M : Nat) (A : SumT) : Prop where
  gd : Good A
  lt : ∀ p ∈ A, ∀ x ∈ p.1, 0 ≤ x ∧ x < (c : Int)
  ln : ∀ p ∈ A, p.1.length ≤ k
  bd : ∀ p ∈ A, Bd N M p.2
  sz : A.length ≤ n
theorem SumB.dic {c k n N M : Nat} {A : SumT} (h : SumB c k n N M A) : DicB c k n N M A := ⟨h.sm.good, h.lt, h.ln, h.bd, h.sz⟩
theorem DicB.told {c k n N M : Nat} {A : SumT} (h : DicB c k n N M A) : SumB c k n N M (toldT A) := by
  have key : ∀ p ∈ toldT A, p ∈ A := fun p hp => (told_perm h.gd.nd).mem_iff.mp hp
  exact ⟨h.gd.told, fun p hp => h.lt p (key p hp), fun p hp => h.ln p (key p hp), fun p hp => h.bd p (key p hp), by rw [(told_perm h.gd.nd).length_eq]; exact h.sz⟩
theorem DicB.of_all {c k N M : Nat} (hN : N ≠ 0) {ts : SumT} (h1 : ∀ t ∈ ts, (∀ x ∈ t.1, 0 ≤ x ∧ x < (c : Int)) ∧ t.1.length ≤ k) (h2 : ∀ t ∈ ts, Bd N M t.2) : DicB c k ts.length N (ts.length * M) (addAll ts []) := by
  have g : Good (addAll ts []) := good_addAll good_nil
  have ac := Acc.all hN (acc_nil N M) h2
  rw [Nat.zero_add] at ac
  have key : ∀ p ∈ addAll ts [], (∃ t ∈ ts, p.1 = t.1) := fun p hp => by
    rcases mem_addAll hp with h | h
    · exact h
    · cases h
  refine ⟨g, fun p hp => ?_, fun p hp => ?_, fun p hp => ?_, ac.len⟩
  · obtain ⟨t, ht, e⟩ := key p hp
    rw [e]; exact (h1 t ht).1
  · obtain ⟨t, ht, e⟩ := key p hp
    rw [e]; exact (h1 t ht).2
  · rw [← coef_at g hp]
    exact ac.bd _

/-! letters joined: what the program tells -/
def inBody : Rho → Out Fl := (sExpr (eCallM m_put_to 0 0 (aHoleQ 0 (aCons (eOp2 addD (eVar 3) (eVar 5)) (aCons (eCall m_times (aCons (eVar 4) (aCons (eVar 6) aNil))) aNil)))))
theorem join_in {N M k : Nat} (S : Small N M) {A B : D} {w : Wd} {q : Rat} (hw : w.length ≤ 500) (hq : Sz 4000 q) {R : SumT} (hR : ∀ r ∈ R, r.1.length ≤ 500 ∧ Sz 4000 r.2 ∧ Bd N M (q * r.2)) {s : SumT} (h : Acc N M k s) (hk : k + R.length ≤ 100000) (y z : Option D) :
    ∃ ρ', forL (gTup 2 (gCons (gName 5) (gCons (gName 6) gNil))) inBody (R.map eTerm.en) [some (dS s), some A, some B, some (eWord.en w), some (eRat.en q), y, z] = .ok (.nx ρ') ∧ Acc N M (k + R.length) (R.foldl (fun s r => addT s (w ++ r.1) (q * r.2)) s) ∧ ∃ y z, ρ' = [some (dS (R.foldl (fun s r => addT s (w ++ r.1) (q * r.2)) s)), some A, some B, some (eWord.en w), some (eRat.en q), y, z] := by
  obtain ⟨ρ', e, k', ha, hl, _, y', z', rfl⟩ := forL_foldr (b := gTup 2 (gCons (gName 5) (gCons (gName 6) gNil))) (g := inBody) (f := eTerm.en) (step := fun (s : SumT) (r : Wd × Rat) => addT s (w ++ r.1) (q * r.2))
    (St := fun l s ρ => ∃ k', Acc N M k' s ∧ k' + l.length = k + R.length ∧ (∀ r ∈ l, r ∈ R) ∧ ∃ y z, ρ = [some (dS s), some A, some B, some (eWord.en w), some (eRat.en q), y, z]) R s _ ⟨k, h, rfl, fun _ z => z, y, z, rfl⟩ (by
    rintro r l s ρ ⟨k', ha, hl, hm, y, z, rfl⟩
    obtain ⟨r1, r2, r3⟩ := hR r (hm r List.mem_cons_self)
    rw [List.length_cons] at hl
    have hk' : k' ≤ 100000 := by omega
    have e1 := times_ok hq r2 (by decide)
    have a1 := addD_w w r.1 (by omega)
    have p1 := put_to_ok (l := s) (w := w ++ r.1) (q := q * r.2) (ha.sz S hk' _) (S.sz r3) (by have := ha.len; omega)
    refine ⟨_, [some (dS (addT s (w ++ r.1) (q * r.2))), some A, some B, some (eWord.en w), some (eRat.en q), some (eWord.en r.1), some (eRat.en r.2)], rfl, ?_, k' + 1, ha.add S.n0 r3, by omega, fun x hx => hm x (List.mem_cons_of_mem _ hx), _, _, rfl⟩
    simp (disch := first | assumption | decide | omega) only [inBody, runF, m0, sSeq, sSet, sIf, sRet, sRetN, sExpr, sSkip_ok, sSetA, sSetIx, sFor, sPar, sBind, sAug, eVar, eCon_ok, eOp2, eOp1, eCall, eCallM, eCallT, eTup, eLst, eArg, eIf, tVal, tNotF, tAndF, tOrF, eB, eAndF, eOrF, eNotF, eIxA, eIxO, eCatO, ixA_lst, ixA_tup, ixA_scr, eDNew, eDGet, eDGetO, eDPop, eSortK, eMM, aHoleQ, aHole, aNil_ok, aCons, oNone_ok, oSome, eSlice, eSliceL, iSeqA, iSeq, iRange, iArg, ePeek, tPeek, eOwnM, tYes_ok, bind_ok, bind_exc, bind_stuck, of_some, flatD, SW.gName, List.getD_cons_zero, List.getD_cons_succ, List.set_cons_zero, List.set_cons_succ, List.map_cons, List.map_nil, List.length_cons, List.length_nil, List.cons_append, List.nil_append, List.replicate, Nat.reduceAdd, Nat.reduceSub, addD_int, subD_int, negD_int, repD_int, modD_int, fdivD_int, ltA_int, leA_int, gtA_int, geA_int, eqD_int, neD_int, pow_10_18, pow_10_60, a1, e1, p1])
  rw [List.length_nil] at hl
  have hl : k' = k + R.length := hl
  subst hl
  exact ⟨_, e, ha, _, _, rfl⟩
theorem foldl_join (B : SumT) : ∀ (A s : SumT), A.foldl (fun s p => B.foldl (fun s r => addT s (p.1 ++ r.1) (p.2 * r.2)) s) s = addAll (joinL A B) s
  | [], _ => rfl
  | p :: A, s => by
    have e : joinL (p :: A) B = (B.map fun r => (p.1 ++ r.1, p.2 * r.2)) ++ joinL A B := rfl
    rw [List.foldl_cons, foldl_join B A, e]
    unfold addAll
    rw [List.foldl_append, List.foldl_map]
theorem joined_to_acc {N M k : Nat} (S : Small N M) {A B s0 : SumT} (h0 : Acc N M k s0) (hA : ∀ p ∈ A, p.1.length ≤ 500 ∧ Sz 4000 p.2) (hB : ∀ r ∈ B, r.1.length ≤ 500 ∧ Sz 4000 r.2) (hq : ∀ p ∈ A, ∀ r ∈ B, Bd N M (p.2 * r.2)) (hn : k + A.length * B.length ≤ 100000) :
    m_joined_to [dS s0, eSum.en A, eSum.en B] = .ok (.non, dS (addAll (joinL A B) s0)) := by
  obtain ⟨ρ', e, k', ha, hl, _, x1, x2, x3, x4, rfl⟩ := forL_foldr (b := gTup 2 (gCons (gName 3) (gCons (gName 4) gNil))) (g := sFor (iSeqA (eVar 2)) (gTup 2 (gCons (gName 5) (gCons (gName 6) gNil))) inBody) (f := eTerm.en) (step := fun (s : SumT) (p : Wd × Rat) => B.foldl (fun s r => addT s (p.1 ++ r.1) (p.2 * r.2)) s)
    (St := fun l s ρ => ∃ k', Acc N M k' s ∧ k' + l.length * B.length = k + A.length * B.length ∧ (∀ r ∈ l, r ∈ A) ∧ ∃ x1 x2 x3 x4, ρ = [some (dS s), some (eSum.en A), some (eSum.en B), x1, x2, x3, x4]) A s0 [some (dS s0), some (eSum.en A), some (eSum.en B), none, none, none, none] ⟨k, h0, by omega, fun _ z => z, _, _, _, _, rfl⟩ (by
    rintro p l s ρ ⟨k', ha, hl, hm, x1, x2, x3, x4, rfl⟩
    have hp := hm p List.mem_cons_self
    rw [List.length_cons, Nat.add_mul, Nat.one_mul] at hl
    obtain ⟨ρ2, e2, h2, y, z, rfl⟩ := join_in S (A := eSum.en A) (B := eSum.en B) (hA p hp).1 (hA p hp).2 (fun r hr => ⟨(hB r hr).1, (hB r hr).2, hq p hp r hr⟩) ha (by omega) x3 x4
    refine ⟨[some (dS s), some (eSum.en A), some (eSum.en B), some (eWord.en p.1), some (eRat.en p.2), x3, x4], [some (dS (B.foldl (fun s r => addT s (p.1 ++ r.1) (p.2 * r.2)) s)), some (eSum.en A), some (eSum.en B), some (eWord.en p.1), some (eRat.en p.2), y, z], rfl, ?_, k' + B.length, h2, by omega, fun x hx => hm x (List.mem_cons_of_mem _ hx), _, _, _, _, rfl⟩
    have it : itemsA (eSum.en B) = some (B.map eTerm.en) := rfl
    simp (disch := first | assumption | decide | omega) only [runF, m0, sSeq, sSet, sIf, sRet, sRetN, sExpr, sSkip_ok, sSetA, sSetIx, sFor, sPar, sBind, sAug, eVar, eCon_ok, eOp2, eOp1, eCall, eCallM, eCallT, eTup, eLst, eArg, eIf, tVal, tNotF, tAndF, tOrF, eB, eAndF, eOrF, eNotF, eIxA, eIxO, eCatO, ixA_lst, ixA_tup, ixA_scr, eDNew, eDGet, eDGetO, eDPop, eSortK, eMM, aHoleQ, aHole, aNil_ok, aCons, oNone_ok, oSome, eSlice, eSliceL, iSeqA, iSeq, iRange, iArg, ePeek, tPeek, eOwnM, tYes_ok, bind_ok, bind_exc, bind_stuck, of_some, flatD, SW.gName, List.getD_cons_zero, List.getD_cons_succ, List.set_cons_zero, List.set_cons_succ, List.map_cons, List.map_nil, List.length_cons, List.length_nil, List.cons_append, List.nil_append, List.replicate, Nat.reduceAdd, Nat.reduceSub, addD_int, subD_int, negD_int, repD_int, modD_int, fdivD_int, ltA_int, leA_int, gtA_int, geA_int, eqD_int, neD_int, pow_10_18, pow_10_60, it, e2])
  have it : itemsA (eSum.en A) = some (A.map eTerm.en) := rfl
  have eb : b_joined_to = sFor (iSeqA (eVar 1)) (gTup 2 (gCons (gName 3) (gCons (gName 4) gNil))) (sFor (iSeqA (eVar 2)) (gTup 2 (gCons (gName 5) (gCons (gName 6) gNil))) inBody) := rfl
  rw [← foldl_join]
  simp (disch := first | assumption | decide | omega) only [m_joined_to, eb, runF, m0, sSeq, sSet, sIf, sRet, sRetN, sExpr, sSkip_ok, sSetA, sSetIx, sFor, sPar, sBind, sAug, eVar, eCon_ok, eOp2, eOp1, eCall, eCallM, eCallT, eTup, eLst, eArg, eIf, tVal, tNotF, tAndF, tOrF, eB, eAndF, eOrF, eNotF, eIxA, eIxO, eCatO, ixA_lst, ixA_tup, ixA_scr, eDNew, eDGet, eDGetO, eDPop, eSortK, eMM, aHoleQ, aHole, aNil_ok, aCons, oNone_ok, oSome, eSlice, eSliceL, iSeqA, iSeq, iRange, iArg, ePeek, tPeek, eOwnM, tYes_ok, bind_ok, bind_exc, bind_stuck, of_some, flatD, SW.gName, List.getD_cons_zero, List.getD_cons_succ, List.set_cons_zero, List.set_cons_succ, List.map_cons, List.map_nil, List.length_cons, List.length_nil, List.cons_append, List.nil_append, List.replicate, Nat.reduceAdd, Nat.reduceSub, addD_int, subD_int, negD_int, repD_int, modD_int, fdivD_int, ltA_int, leA_int, gtA_int, geA_int, eqD_int, neD_int, pow_10_18, pow_10_60, it, e, Option.getD_some]
theorem joined_to_ok {N M : Nat} (S : Small N M) {A B : SumT} (hA : ∀ p ∈ A, p.1.length ≤ 500 ∧ Sz 4000 p.2) (hB : ∀ r ∈ B, r.1.length ≤ 500 ∧ Sz 4000 r.2) (hq : ∀ p ∈ A, ∀ r ∈ B, Bd N M (p.2 * r.2)) (hn : A.length * B.length ≤ 100000) :
    m_joined_to [dS [], eSum.en A, eSum.en B] = .ok (.non, dS (joinT A B)) := joined_to_acc S (acc_nil N M) hA hB hq (by omega)
theorem mem_join {A B : SumT} {t : Wd × Rat} (h : t ∈ joinL A B) : ∃ p ∈ A, ∃ r ∈ B, t = (p.1 ++ r.1, p.2 * r.2) := by
  obtain ⟨p, hp, h⟩ := List.mem_flatMap.mp h
  obtain ⟨r, hr, e⟩ := List.mem_map.mp h
  exact ⟨p, hp, r, hr, e.symm⟩
theorem DicB.join {c k1 k2 n1 n2 N1 N2 M1 M2 : Nat} {A B : SumT} (hN1 : N1 ≠ 0) (hN2 : N2 ≠ 0) (hA : DicB c k1 n1 N1 M1 A) (hB : DicB c k2 n2 N2 M2 B) : DicB c (k1 + k2) (n1 * n2) (N1 * N2) (n1 * n2 * (M1 * M2)) (joinT A B) := by
  have h := DicB.of_all (c := c) (k := k1 + k2) (N := N1 * N2) (M := M1 * M2) (Nat.mul_ne_zero hN1 hN2) (ts := joinL A B) (fun t ht => by
    obtain ⟨p, hp, r, hr, rfl⟩ := mem_join ht
    refine ⟨fun x hx => ?_, by rw [List.length_append]; exact Nat.add_le_add (hA.ln p hp) (hB.ln r hr)⟩
    rcases List.mem_append.mp hx with hx | hx
    · exact hA.lt p hp x hx
    · exact hB.lt r hr x hx) (fun t ht => by
    obtain ⟨p, hp, r, hr, rfl⟩ := mem_join ht
    exact (hA.bd p hp).mul (hB.bd r hr))
  have hl : (joinL A B).length ≤ n1 * n2 := by rw [joinL_len]; exact Nat.mul_le_mul hA.sz hB.sz
  exact ⟨h.gd, h.lt, h.ln, fun p hp => (h.bd p hp).mono (Nat.mul_le_mul_right _ hl), Nat.le_trans h.sz hl⟩

/-! letters: the law's own sums -/
theorem getT_map (w : Wd) (q : Rat) : ∀ l : SumT, getT (l.map fun p => if p.1 = w then (p.1, q) else p) w = (getT l w).map fun _ => q
  | [] => rfl
  | p :: l => by
    rw [List.map_cons, getT_cons, getT_cons]
    by_cases h : p.1 = w
    · rw [if_pos h, if_pos h, if_pos h]; rfl
    · rw [if_neg h, if_neg h, if_neg h]; exact getT_map w q l
theorem getT_app (w : Wd) (q : Rat) : ∀ l : SumT, getT l w = none → getT (l ++ [(w, q)]) w = some q
  | [], _ => by rw [List.nil_append, getT_cons, if_pos rfl]
  | p :: l, h => by
    rw [getT_cons] at h
    rw [List.cons_append, getT_cons]
    by_cases e : p.1 = w
    · rw [if_pos e] at h; cases h
    · rw [if_neg e] at h ⊢; exact getT_app w q l h
theorem getT_set (l : SumT) (w : Wd) (q : Rat) : getT (setT l w q) w = some q := by
  unfold setT
  cases h : getT l w with
  | none => rw [if_neg (by simp)]; exact getT_app w q l h
  | some y => rw [if_pos (by rfl), getT_map, h]; rfl
theorem del_map (w : Wd) (q : Rat) : ∀ l : SumT, delT (l.map fun p => if p.1 = w then (p.1, q) else p) w = delT l w
  | [] => rfl
  | p :: l => by
    have ih := del_map w q l
    unfold delT at *
    rw [List.map_cons]
    by_cases h : p.1 = w
    · rw [if_pos h, List.filter_cons_of_neg (by simp [h]), List.filter_cons_of_neg (by simp [h]), ih]
    · rw [if_neg h, List.filter_cons_of_pos (by simp [h]), List.filter_cons_of_pos (by simp [h]), ih]
theorem del_set (l : SumT) (w : Wd) (q : Rat) : delT (setT l w q) w = delT l w := by
  unfold setT
  split
  · exact del_map w q l
  · unfold delT
    rw [List.filter_append, List.filter_cons_of_neg (by simp), List.filter_nil, List.append_nil]
theorem get_E2 (l : SumT) (w : Wd) : ((getT l w).map eRat.en).getD (.tup [.int 0, .int 1]) = eRat.en (coef l w) := get_E l w
theorem law_put_g {i j : Nat} {l : SumT} {w : Wd} {q : Rat} (h1 : Sz i (coef l w)) (h2 : Sz j q) (hij : i + j ≤ 100000000) (hl : l.length ≤ 200000) : m__law_put [dS l, eWord.en w, eRat.en q] = .ok (.non, dS (addT l w q)) := by
  have e1 := law_plus_ok h1 h2 hij
  have hs : (dE eRat.en l).length < sizeLine := by rw [dE_len]; exact len_small hl
  have x1 := ixA_E (getT_set l w (coef l w + q))
  by_cases z : coef l w + q = 0
  · have d0 : (coef l w + q).num = 0 := by rw [z]; rfl
    have ea : addT l w q = delT l w := by unfold addT; rw [if_pos z]
    have v1 : valD (dE eRat.en (setT l w (coef l w + q))) (wk w) = some (eRat.en (coef l w + q)) := by rw [valD_E, getT_set]; rfl
    rw [ea]
    simp (disch := first | assumption | decide | omega) only [m__law_put, b__law_put, runF, m0, sSeq, sSet, sIf, sRet, sRetN, sExpr, sSkip_ok, sSetA, sSetIx, sFor, sPar, sBind, sAug, eVar, eCon_ok, eOp2, eOp1, eCall, eCallM, eCallT, eTup, eLst, eArg, eIf, tVal, tNotF, tAndF, tOrF, eB, eAndF, eOrF, eNotF, eIxA, eIxO, eCatO, ixA_lst, ixA_tup, ixA_scr, eDNew, eDGet, eDGetO, eDPop, eSortK, eMM, aHoleQ, aHole, aNil_ok, aCons, oNone_ok, oSome, eSlice, eSliceL, iSeqA, iSeq, iRange, iArg, ePeek, tPeek, eOwnM, tYes_ok, bind_ok, bind_exc, bind_stuck, of_some, flatD, SW.gName, List.getD_cons_zero, List.getD_cons_succ, List.set_cons_zero, List.set_cons_succ, List.map_cons, List.map_nil, List.length_cons, List.length_nil, List.cons_append, List.nil_append, List.replicate, Nat.reduceAdd, Nat.reduceSub, addD_int, subD_int, negD_int, repD_int, modD_int, fdivD_int, ltA_int, leA_int, gtA_int, geA_int, eqD_int, neD_int, pow_10_18, pow_10_60, Option.getD_some, keyT_word, Option.map_some, Option.bind_some, valD_E, get_E2, e1, hs, if_true, putD_E, x1, r0, decide_eq_true d0, getT_set, dropD_E, del_set]
  · have d0 : ¬ (coef l w + q).num = 0 := num_ne z
    have ea : addT l w q = setT l w (coef l w + q) := by unfold addT; rw [if_neg z]
    rw [ea]
    simp (disch := first | assumption | decide | omega) only [m__law_put, b__law_put, runF, m0, sSeq, sSet, sIf, sRet, sRetN, sExpr, sSkip_ok, sSetA, sSetIx, sFor, sPar, sBind, sAug, eVar, eCon_ok, eOp2, eOp1, eCall, eCallM, eCallT, eTup, eLst, eArg, eIf, tVal, tNotF, tAndF, tOrF, eB, eAndF, eOrF, eNotF, eIxA, eIxO, eCatO, ixA_lst, ixA_tup, ixA_scr, eDNew, eDGet, eDGetO, eDPop, eSortK, eMM, aHoleQ, aHole, aNil_ok, aCons, oNone_ok, oSome, eSlice, eSliceL, iSeqA, iSeq, iRange, iArg, ePeek, tPeek, eOwnM, tYes_ok, bind_ok, bind_exc, bind_stuck, of_some, flatD, SW.gName, List.getD_cons_zero, List.getD_cons_succ, List.set_cons_zero, List.set_cons_succ, List.map_cons, List.map_nil, List.length_cons, List.length_nil, List.cons_append, List.nil_append, List.replicate, Nat.reduceAdd, Nat.reduceSub, addD_int, subD_int, negD_int, repD_int, modD_int, fdivD_int, ltA_int, leA_int, gtA_int, geA_int, eqD_int, neD_int, pow_10_18, pow_10_60, Option.getD_some, keyT_word, Option.map_some, Option.bind_some, valD_E, get_E2, e1, hs, if_true, putD_E, x1, r0, decide_eq_false d0, Bool.false_eq_true, if_false]
theorem law_put_ok {l : SumT} {w : Wd} {q : Rat} (h1 : Sz 4000 (coef l w)) (h2 : Sz 4000 q) (hl : l.length ≤ 200000) : m__law_put [dS l, eWord.en w, eRat.en q] = .ok (.non, dS (addT l w q)) := law_put_g h1 h2 (by decide) hl
theorem law_rank_ok (w : Wd) : m__law_rank [eWord.en w] = .ok (rkE w, .non) := by
  simp (disch := first | assumption | decide | omega) only [m__law_rank, b__law_rank, runF, m0, sSeq, sSet, sIf, sRet, sRetN, sExpr, sSkip_ok, sSetA, sSetIx, sFor, sPar, sBind, sAug, eVar, eCon_ok, eOp2, eOp1, eCall, eCallM, eCallT, eTup, eLst, eArg, eIf, tVal, tNotF, tAndF, tOrF, eB, eAndF, eOrF, eNotF, eIxA, eIxO, eCatO, ixA_lst, ixA_tup, ixA_scr, eDNew, eDGet, eDGetO, eDPop, eSortK, eMM, aHoleQ, aHole, aNil_ok, aCons, oNone_ok, oSome, eSlice, eSliceL, iSeqA, iSeq, iRange, iArg, ePeek, tPeek, eOwnM, tYes_ok, bind_ok, bind_exc, bind_stuck, of_some, flatD, SW.gName, List.getD_cons_zero, List.getD_cons_succ, List.set_cons_zero, List.set_cons_succ, List.map_cons, List.map_nil, List.length_cons, List.length_nil, List.cons_append, List.nil_append, List.replicate, Nat.reduceAdd, Nat.reduceSub, addD_int, subD_int, negD_int, repD_int, modD_int, fdivD_int, ltA_int, leA_int, gtA_int, geA_int, eqD_int, neD_int, pow_10_18, pow_10_60, len_w, rkE]
theorem law_told_ok {l : SumT} (g : Good l) : m__law_told [dS l] = .ok (eSum.en (toldT l), .non) := told_gen law_rank_ok g
/-! drawn -/
theorem pow_10_3 : powD (.int 10) (.int 3) = some (.int 1000) := powD_int (by decide) (by decide)
theorem law_number_ok {n : Nat} {p : D} (hp : Ps (n + 3) p) : ∃ (r : Rat) (p' : D), m__law_number [p] = .ok (eRat.en r, p') ∧ Bd 2520 1000 r ∧ Ps n p' := by
  obtain ⟨g1, p1, e1, g10, g11, hp1⟩ := take_ok (n := n + 2) (many := 5) hp (by decide) (by decide)
  by_cases h3 : g1 < 3
  · have hx : ∃ r : Rat, ixD (.lst [.tup [.int 0, .int 1], .tup [.int 1, .int 1], .tup [.int (-1), .int 1]]) (.int g1) = some (eRat.en r) ∧ Bd 2520 1000 r := by
      have : g1 = 0 ∨ g1 = 1 ∨ g1 = 2 := by omega
      rcases this with rfl | rfl | rfl
      · exact ⟨0, rfl, bd_zero _ _⟩
      · exact ⟨1, rfl, by decide, by decide⟩
      · exact ⟨-1, rfl, by decide, by decide⟩
    obtain ⟨r, er, hr⟩ := hx
    refine ⟨r, p1, ?_, hr, Ps.mono (by omega) hp1⟩
    simp (disch := first | assumption | decide | omega) only [m__law_number, b__law_number, runF, m0, sSeq, sSet, sIf, sRet, sRetN, sExpr, sSkip_ok, sSetA, sSetIx, sFor, sPar, sBind, sAug, eVar, eCon_ok, eOp2, eOp1, eCall, eCallM, eCallT, eTup, eLst, eArg, eIf, tVal, tNotF, tAndF, tOrF, eB, eAndF, eOrF, eNotF, eIxA, eIxO, eCatO, ixA_lst, ixA_tup, ixA_scr, eDNew, eDGet, eDGetO, eDPop, eSortK, eMM, aHoleQ, aHole, aNil_ok, aCons, oNone_ok, oSome, eSlice, eSliceL, iSeqA, iSeq, iRange, iArg, ePeek, tPeek, eOwnM, tYes_ok, bind_ok, bind_exc, bind_stuck, of_some, flatD, SW.gName, List.getD_cons_zero, List.getD_cons_succ, List.set_cons_zero, List.set_cons_succ, List.map_cons, List.map_nil, List.length_cons, List.length_nil, List.cons_append, List.nil_append, List.replicate, Nat.reduceAdd, Nat.reduceSub, addD_int, subD_int, negD_int, repD_int, modD_int, fdivD_int, ltA_int, leA_int, gtA_int, geA_int, eqD_int, neD_int, pow_10_18, pow_10_60, e1, decide_eq_true h3, if_true, er, Option.getD_some]
  · by_cases h5 : g1 = 3
    · obtain ⟨g2, p2, e2, g20, g21, hp2⟩ := take_ok (n := n + 1) (many := 13) hp1 (by decide) (by decide)
      have en : eRat.en (mkRat (g2 - 6) 1) = .tup [.int (g2 - 6), .int 1] := rat_en (mkRat_one _).1 (mkRat_one _).2
      refine ⟨mkRat (g2 - 6) 1, p2, ?_, bd_of (by decide) rfl (by decide) (by omega), Ps.mono (by omega) hp2⟩
      rw [en]
      simp (disch := first | assumption | decide | omega) only [m__law_number, b__law_number, runF, m0, sSeq, sSet, sIf, sRet, sRetN, sExpr, sSkip_ok, sSetA, sSetIx, sFor, sPar, sBind, sAug, eVar, eCon_ok, eOp2, eOp1, eCall, eCallM, eCallT, eTup, eLst, eArg, eIf, tVal, tNotF, tAndF, tOrF, eB, eAndF, eOrF, eNotF, eIxA, eIxO, eCatO, ixA_lst, ixA_tup, ixA_scr, eDNew, eDGet, eDGetO, eDPop, eSortK, eMM, aHoleQ, aHole, aNil_ok, aCons, oNone_ok, oSome, eSlice, eSliceL, iSeqA, iSeq, iRange, iArg, ePeek, tPeek, eOwnM, tYes_ok, bind_ok, bind_exc, bind_stuck, of_some, flatD, SW.gName, List.getD_cons_zero, List.getD_cons_succ, List.set_cons_zero, List.set_cons_succ, List.map_cons, List.map_nil, List.length_cons, List.length_nil, List.cons_append, List.nil_append, List.replicate, Nat.reduceAdd, Nat.reduceSub, addD_int, subD_int, negD_int, repD_int, modD_int, fdivD_int, ltA_int, leA_int, gtA_int, geA_int, eqD_int, neD_int, pow_10_18, pow_10_60, e1, decide_eq_false h3, decide_eq_true h5, if_true, if_false, Bool.false_eq_true, e2, Option.getD_some]
    · have b1 : bits2 2 1000 = true := bits2_l (by decide)
      obtain ⟨g2, p2, e2, g20, g21, hp2⟩ := take_ok (n := n + 1) (many := 2 * 1000 + 1) hp1 (by decide) (by decide)
      obtain ⟨g3, p3, e3, g30, g31, hp3⟩ := take_ok (n := n) (many := 9) hp2 (by decide) (by decide)
      have hd : ∃ d : Nat, 1 + g3 = ((d : Nat) : Int) ∧ (d = 1 ∨ d = 2 ∨ d = 3 ∨ d = 4 ∨ d = 5 ∨ d = 6 ∨ d = 7 ∨ d = 8 ∨ d = 9) := ⟨(1 + g3).toNat, by omega, by omega⟩
      obtain ⟨d, ed, d1⟩ := hd
      have el := law_low_ok (g2 - 1000) (show d ≠ 0 by omega)
      refine ⟨mkRat (g2 - 1000) d, p3, ?_, bd_of (by omega) rfl (by rcases d1 with h | h | h | h | h | h | h | h | h <;> subst h <;> decide) (by omega), hp3⟩
      simp (disch := first | assumption | decide | omega) only [m__law_number, b__law_number, runF, m0, sSeq, sSet, sIf, sRet, sRetN, sExpr, sSkip_ok, sSetA, sSetIx, sFor, sPar, sBind, sAug, eVar, eCon_ok, eOp2, eOp1, eCall, eCallM, eCallT, eTup, eLst, eArg, eIf, tVal, tNotF, tAndF, tOrF, eB, eAndF, eOrF, eNotF, eIxA, eIxO, eCatO, ixA_lst, ixA_tup, ixA_scr, eDNew, eDGet, eDGetO, eDPop, eSortK, eMM, aHoleQ, aHole, aNil_ok, aCons, oNone_ok, oSome, eSlice, eSliceL, iSeqA, iSeq, iRange, iArg, ePeek, tPeek, eOwnM, tYes_ok, bind_ok, bind_exc, bind_stuck, of_some, flatD, SW.gName, List.getD_cons_zero, List.getD_cons_succ, List.set_cons_zero, List.set_cons_succ, List.map_cons, List.map_nil, List.length_cons, List.length_nil, List.cons_append, List.nil_append, List.replicate, Nat.reduceAdd, Nat.reduceSub, addD_int, subD_int, negD_int, repD_int, modD_int, fdivD_int, ltA_int, leA_int, gtA_int, geA_int, eqD_int, neD_int, pow_10_18, pow_10_60, pow_10_3, e1, decide_eq_false h3, decide_eq_false h5, if_true, if_false, Bool.false_eq_true, e2, e3, ed, el, Option.getD_some]
theorem tuple_i (w : Wd) : tupleD [.lst (w.map D.int)] = some (eWord.en w) := rfl
theorem law_word_ok {n c k : Nat} (c1 : 1 ≤ c) (c4 : c ≤ 1000) (hk : k ≤ 1000) {p : D} (hp : Ps (n + k + 1) p) : ∃ (w : Wd) (p' : D), m__law_word [p, .int c, .int k] = .ok (eWord.en w, p') ∧ w.length ≤ k ∧ (∀ x ∈ w, 0 ≤ x ∧ x < (c : Int)) ∧ Ps n p' := by
  have h200 : (2 : Int) ^ 200 = 1606938044258990275541962092341162602522202993782792835301376 := by decide
  obtain ⟨g, p1, e1, g0, g1, hp1⟩ := take_ok (n := n + k) (many := (k : Nat) + 1) hp (by omega) (by omega)
  have hr := rangeD1 (j := g) g0 (by omega)
  obtain ⟨w, p2, e2, wl, wg, hp2⟩ := compL_turn (vs := [3]) (b := gName 3) (fe := eCallM m__law_take 0 0 (aHoleQ 0 (aCons (eVar 1) aNil))) (en := D.int) (f := fun i : Nat => D.int ((i : Nat) : Int)) (ρf := fun p => [some p, some (.int c), some (.int k), none]) (Good := fun x => 0 ≤ x ∧ x < (c : Int)) (c := 1) (by
    intro i n p hp
    obtain ⟨g, p1, e, g0, g1, hp1⟩ := take_ok (n := n) (p := p) (many := c) hp (by omega) (by omega)
    refine ⟨[some p, some (.int c), some (.int k), some (.int i)], rfl, g, p1, [some p1, some (.int c), some (.int k), some (.int i)], ?_, rfl, ⟨g0, g1⟩, hp1⟩
    simp (disch := first | assumption | decide | omega) only [runF, m0, sSeq, sSet, sIf, sRet, sRetN, sExpr, sSkip_ok, sSetA, sSetIx, sFor, sPar, sBind, sAug, eVar, eCon_ok, eOp2, eOp1, eCall, eCallM, eCallT, eTup, eLst, eArg, eIf, tVal, tNotF, tAndF, tOrF, eB, eAndF, eOrF, eNotF, eIxA, eIxO, eCatO, ixA_lst, ixA_tup, ixA_scr, eDNew, eDGet, eDGetO, eDPop, eSortK, eMM, aHoleQ, aHole, aNil_ok, aCons, oNone_ok, oSome, eSlice, eSliceL, iSeqA, iSeq, iRange, iArg, ePeek, tPeek, eOwnM, tYes_ok, bind_ok, bind_exc, bind_stuck, of_some, flatD, SW.gName, List.getD_cons_zero, List.getD_cons_succ, List.set_cons_zero, List.set_cons_succ, List.map_cons, List.map_nil, List.length_cons, List.length_nil, List.cons_append, List.nil_append, List.replicate, Nat.reduceAdd, Nat.reduceSub, addD_int, subD_int, negD_int, repD_int, modD_int, fdivD_int, ltA_int, leA_int, gtA_int, geA_int, eqD_int, neD_int, pow_10_18, pow_10_60, e, Option.getD_some]) (List.range g.toNat) n p1 (Ps.mono (by rw [List.length_range]; omega) hp1)
  rw [List.length_range] at wl
  refine ⟨w, p2, ?_, by omega, wg, hp2⟩
  simp (disch := first | assumption | decide | omega) only [m__law_word, b__law_word, runF, m0, sSeq, sSet, sIf, sRet, sRetN, sExpr, sSkip_ok, sSetA, sSetIx, sFor, sPar, sBind, sAug, eVar, eCon_ok, eOp2, eOp1, eCall, eCallM, eCallT, eTup, eLst, eArg, eIf, tVal, tNotF, tAndF, tOrF, eB, eAndF, eOrF, eNotF, eIxA, eIxO, eCatO, ixA_lst, ixA_tup, ixA_scr, eDNew, eDGet, eDGetO, eDPop, eSortK, eMM, aHoleQ, aHole, aNil_ok, aCons, oNone_ok, oSome, eSlice, eSliceL, iSeqA, iSeq, iRange, iArg, ePeek, tPeek, eOwnM, tYes_ok, bind_ok, bind_exc, bind_stuck, of_some, flatD, SW.gName, List.getD_cons_zero, List.getD_cons_succ, List.set_cons_zero, List.set_cons_succ, List.map_cons, List.map_nil, List.length_cons, List.length_nil, List.cons_append, List.nil_append, List.replicate, Nat.reduceAdd, Nat.reduceSub, addD_int, subD_int, negD_int, repD_int, modD_int, fdivD_int, ltA_int, leA_int, gtA_int, geA_int, eqD_int, neD_int, pow_10_18, pow_10_60, e1, hr, eComp, e2, tuple_i, Option.getD_some]
theorem good_set {l : SumT} {w : Wd} {q : Rat} (g : Good l) (hq : q ≠ 0) : Good (setT l w q) := ⟨nodup_set g.nd, fun p hp => by
  rcases mem_set hp with e | hp
  · rw [e]; exact hq
  · exact g.nz p hp⟩
theorem DicB.set {c k n N M : Nat} {l : SumT} {w : Wd} {q : Rat} (h : DicB c k n N M l) (hq : q ≠ 0) (hw : w.length ≤ k) (hx : ∀ x ∈ w, 0 ≤ x ∧ x < (c : Int)) (hb : Bd N M q) : DicB c k (n + 1) N M (setT l w q) := by
  refine ⟨good_set h.gd hq, fun p hp => ?_, fun p hp => ?_, fun p hp => ?_, Nat.le_trans (set_len _ _ _) (Nat.add_le_add_right h.sz 1)⟩
  · rcases mem_set hp with e | hp
    · rw [e]; exact hx
    · exact h.lt p hp
  · rcases mem_set hp with e | hp
    · rw [e]; exact hw
    · exact h.ln p hp
  · rcases mem_set hp with e | hp
    · rw [e]; exact hb
    · exact h.bd p hp
theorem law_sum_ok {n c k many : Nat} (c1 : 1 ≤ c) (c4 : c ≤ 1000) (hk : k ≤ 5) (hm : many ≤ 20) {p : D} (hp : Ps (n + many * 9 + 1) p) : ∃ (l : SumT) (p' : D), m__law_sum [p, .int c, .int many, .int k] = .ok (dS l, p') ∧ DicB c k many 2520 1000 l ∧ Ps n p' := by
  have h200 : (2 : Int) ^ 200 = 1606938044258990275541962092341162602522202993782792835301376 := by decide
  obtain ⟨g, p1, e1, g0, g1, hp1⟩ := take_ok (n := n + many * 9) (many := (many : Nat) + 1) hp (by omega) (by omega)
  have hr := rangeD1 (j := g) g0 (by omega)
  obtain ⟨ρ', e, l', p', j, hl, hp', hj, _, y1, y2, y3, rfl⟩ := forL_foldr (b := gName 5) (g := (sSeq (sSet 6 (eCallM m__law_word 0 0 (aHoleQ 0 (aCons (eVar 1) (aCons (eVar 3) aNil))))) (sSeq (sSet 7 (eCallM m__law_number 0 0 (aHoleQ 0 aNil))) (sIf (tVal (eOp2 neD (eOp2 ixA (eVar 7) (eCon (.int 0))) (eCon (.int 0)))) (sSetA 4 (eVar 7) (eVar 6)) sSkip)))) (f := fun i : Nat => D.int ((i : Nat) : Int)) (σ := Unit) (step := fun s _ => s)
    (St := fun rem _ ρ => ∃ (l : SumT) (p : D) (j : Nat), DicB c k j 2520 1000 l ∧ Ps (n + rem.length * 9) p ∧ j + rem.length ≤ many ∧ True ∧ ∃ y1 y2 y3, ρ = [some p, some (.int c), some (.int many), some (.int k), some (dS l), y1, y2, y3]) (List.range g.toNat) () [some p1, some (.int c), some (.int many), some (.int k), some (dS []), none, none, none]
    ⟨[], p1, 0, ⟨good_nil, by simp, by simp, by simp, Nat.le_refl _⟩, Ps.mono (by rw [List.length_range]; omega) hp1, by rw [List.length_range]; omega, trivial, _, _, _, rfl⟩ (by
    rintro i rem _ ρ ⟨l, p, j, hl, hp, hj, _, y1, y2, y3, rfl⟩
    rw [List.length_cons] at hp hj
    obtain ⟨w, p2, e2, w1, w2, hp2⟩ := law_word_ok (n := n + rem.length * 9 + 3) (k := k) c1 c4 (by omega) (p := p) (Ps.mono (by omega) hp)
    obtain ⟨q, p3, e3, q1, hp3⟩ := law_number_ok hp2
    by_cases hq : q = 0
    · have d0 : q.num = 0 := by rw [hq]; rfl
      refine ⟨_, [some p3, some (.int c), some (.int many), some (.int k), some (dS l), some (.int i), some (eWord.en w), some (eRat.en q)], rfl, ?_, l, p3, j, hl, hp3, by omega, trivial, _, _, _, rfl⟩
      simp (disch := first | assumption | decide | omega) only [runF, m0, sSeq, sSet, sIf, sRet, sRetN, sExpr, sSkip_ok, sSetA, sSetIx, sFor, sPar, sBind, sAug, eVar, eCon_ok, eOp2, eOp1, eCall, eCallM, eCallT, eTup, eLst, eArg, eIf, tVal, tNotF, tAndF, tOrF, eB, eAndF, eOrF, eNotF, eIxA, eIxO, eCatO, ixA_lst, ixA_tup, ixA_scr, eDNew, eDGet, eDGetO, eDPop, eSortK, eMM, aHoleQ, aHole, aNil_ok, aCons, oNone_ok, oSome, eSlice, eSliceL, iSeqA, iSeq, iRange, iArg, ePeek, tPeek, eOwnM, tYes_ok, bind_ok, bind_exc, bind_stuck, of_some, flatD, SW.gName, List.getD_cons_zero, List.getD_cons_succ, List.set_cons_zero, List.set_cons_succ, List.map_cons, List.map_nil, List.length_cons, List.length_nil, List.cons_append, List.nil_append, List.replicate, Nat.reduceAdd, Nat.reduceSub, addD_int, subD_int, negD_int, repD_int, modD_int, fdivD_int, ltA_int, leA_int, gtA_int, geA_int, eqD_int, neD_int, pow_10_18, pow_10_60, Option.getD_some, e2, e3, r0, decide_eq_true d0, Bool.not_true, Bool.false_eq_true, if_false]
    · have d0 : ¬ q.num = 0 := num_ne hq
      have hs : (dE eRat.en l).length < sizeLine := by rw [dE_len]; exact len_small (by have := hl.sz; omega)
      refine ⟨_, [some p3, some (.int c), some (.int many), some (.int k), some (dS (setT l w q)), some (.int i), some (eWord.en w), some (eRat.en q)], rfl, ?_, setT l w q, p3, j + 1, hl.set hq w1 w2 q1, hp3, by omega, trivial, _, _, _, rfl⟩
      simp (disch := first | assumption | decide | omega) only [runF, m0, sSeq, sSet, sIf, sRet, sRetN, sExpr, sSkip_ok, sSetA, sSetIx, sFor, sPar, sBind, sAug, eVar, eCon_ok, eOp2, eOp1, eCall, eCallM, eCallT, eTup, eLst, eArg, eIf, tVal, tNotF, tAndF, tOrF, eB, eAndF, eOrF, eNotF, eIxA, eIxO, eCatO, ixA_lst, ixA_tup, ixA_scr, eDNew, eDGet, eDGetO, eDPop, eSortK, eMM, aHoleQ, aHole, aNil_ok, aCons, oNone_ok, oSome, eSlice, eSliceL, iSeqA, iSeq, iRange, iArg, ePeek, tPeek, eOwnM, tYes_ok, bind_ok, bind_exc, bind_stuck, of_some, flatD, SW.gName, List.getD_cons_zero, List.getD_cons_succ, List.set_cons_zero, List.set_cons_succ, List.map_cons, List.map_nil, List.length_cons, List.length_nil, List.cons_append, List.nil_append, List.replicate, Nat.reduceAdd, Nat.reduceSub, addD_int, subD_int, negD_int, repD_int, modD_int, fdivD_int, ltA_int, leA_int, gtA_int, geA_int, eqD_int, neD_int, pow_10_18, pow_10_60, Option.getD_some, e2, e3, r0, decide_eq_false d0, Bool.not_false, if_true, keyT_word, Option.bind_some, hs, putD_E])
  rw [List.length_nil] at hp' hj
  have en : D.dct [] = dS [] := rfl
  refine ⟨l', p', ?_, ⟨hl.gd, hl.lt, hl.ln, hl.bd, Nat.le_trans hl.sz (by omega)⟩, Ps.mono (by omega) hp'⟩
  simp (disch := first | assumption | decide | omega) only [m__law_sum, b__law_sum, runF, m0, sSeq, sSet, sIf, sRet, sRetN, sExpr, sSkip_ok, sSetA, sSetIx, sFor, sPar, sBind, sAug, eVar, eCon_ok, eOp2, eOp1, eCall, eCallM, eCallT, eTup, eLst, eArg, eIf, tVal, tNotF, tAndF, tOrF, eB, eAndF, eOrF, eNotF, eIxA, eIxO, eCatO, ixA_lst, ixA_tup, ixA_scr, eDNew, eDGet, eDGetO, eDPop, eSortK, eMM, aHoleQ, aHole, aNil_ok, aCons, oNone_ok, oSome, eSlice, eSliceL, iSeqA, iSeq, iRange, iArg, ePeek, tPeek, eOwnM, tYes_ok, bind_ok, bind_exc, bind_stuck, of_some, flatD, SW.gName, List.getD_cons_zero, List.getD_cons_succ, List.set_cons_zero, List.set_cons_succ, List.map_cons, List.map_nil, List.length_cons, List.length_nil, List.cons_append, List.nil_append, List.replicate, Nat.reduceAdd, Nat.reduceSub, addD_int, subD_int, negD_int, repD_int, modD_int, fdivD_int, ltA_int, leA_int, gtA_int, geA_int, eqD_int, neD_int, pow_10_18, pow_10_60, Option.getD_some, en, e1, hr, e]

/-! what trees say -/
inductive Tr where
  | leaf (n : Nat) | node (l r : Tr)
def Tr.en : Tr → D
  | .leaf n => .int ((n : Nat) : Int)
  | .node l r => .tup [l.en, r.en]
def Tr.letters : Tr → List Nat
  | .leaf n => [n]
  | .node l r => l.letters ++ r.letters
def Tr.depth : Tr → Nat
  | .leaf _ => 0
  | .node l r => max l.depth r.depth + 1
abbrev lets (t : Tr) : List Nat := t.letters
def negS (A : SumT) : SumT := A.map fun p => (p.1, -p.2)
def saidT : Tr → SumT
  | .leaf x => [([((x : Nat) : Int)], 1)]
  | .node l r => toldT (addAll (joinL (saidT r) (negS (saidT l))) (joinT (saidT l) (saidT r)))
def nB (m : Nat) : Nat := 2 ^ (m - 1)
def mB (m : Nat) : Nat := 2 ^ (3 * (m * m))
def bChk (f : Nat → Nat → Bool) : Bool := (List.range 6).all fun a => (List.range 6).all fun b => decide (a = 0) || decide (b = 0) || decide (5 < a + b) || f a b
theorem bget {f : Nat → Nat → Bool} (h : bChk f = true) {a b : Nat} (ha : 1 ≤ a) (hb : 1 ≤ b) (hab : a + b ≤ 5) : f a b = true := by
  have h1 := List.all_eq_true.mp (List.all_eq_true.mp h a (List.mem_range.mpr (by omega))) b (List.mem_range.mpr (by omega))
  rw [decide_eq_false (show ¬ a = 0 by omega), decide_eq_false (show ¬ b = 0 by omega), decide_eq_false (show ¬ 5 < a + b by omega)] at h1
  exact h1
theorem bkey {a b : Nat} (ha : 1 ≤ a) (hb : 1 ≤ b) (hab : a + b ≤ 5) : 2 * (nB a * nB b) ≤ nB (a + b) ∧ 2 * (nB a * nB b) * (mB a * mB b) ≤ mB (a + b) := by
  have h1 := bget (f := fun a b => decide (2 * (nB a * nB b) ≤ nB (a + b)) && decide (2 * (nB a * nB b) * (mB a * mB b) ≤ mB (a + b))) (by decide +kernel) ha hb hab
  rw [Bool.and_eq_true, decide_eq_true_iff, decide_eq_true_iff] at h1
  exact h1
theorem btop {a b : Nat} (ha : 1 ≤ a) (hb : 1 ≤ b) (hab : a + b ≤ 5) : 2 * (nB a * nB b) ≤ 1000 ∧ 100000 * (mB a * mB b) < 2 ^ 250 ∧ 100000 * mB a < 2 ^ 250 := by
  have h1 := bget (f := fun a b => decide (2 * (nB a * nB b) ≤ 1000) && (decide (100000 * (mB a * mB b) < 2 ^ 250) && decide (100000 * mB a < 2 ^ 250))) (by decide +kernel) ha hb hab
  rw [Bool.and_eq_true, Bool.and_eq_true, decide_eq_true_iff, decide_eq_true_iff, decide_eq_true_iff] at h1
  exact h1
theorem lets_pos : ∀ t : Tr, 1 ≤ (lets t).length
  | .leaf x => Nat.le_refl _
  | .node l r => by
    have := lets_pos l
    show 1 ≤ (l.letters ++ r.letters).length
    rw [List.length_append]
    have h : 1 ≤ l.letters.length := this
    omega
theorem mem_neg {A : SumT} {p : Wd × Rat} (h : p ∈ negS A) : ∃ q ∈ A, p = (q.1, -q.2) := by
  obtain ⟨q, hq, e⟩ := List.mem_map.mp h
  exact ⟨q, hq, e.symm⟩
theorem neg_len (A : SumT) : (negS A).length = A.length := by unfold negS; rw [List.length_map]
theorem small_of {N M : Nat} (h0 : N ≠ 0) (h1 : N < 2 ^ 250) (h2 : 100000 * M * N < 2 ^ 250) : Small N M := ⟨h0, Nat.lt_of_lt_of_le h1 (Nat.pow_le_pow_right (by decide) (by decide)), Nat.lt_of_lt_of_le h2 (Nat.pow_le_pow_right (by decide) (by decide))⟩
structure SaidB (t : Tr) : Prop where
  b : SumB 4 (lets t).length (nB (lets t).length) 1 (mB (lets t).length) (saidT t)
theorem said_b : ∀ t : Tr, (lets t).length ≤ 5 → (∀ x ∈ lets t, x < 4) → SaidB t
  | .leaf x, _, hx => by
    refine ⟨⟨⟨List.pairwise_singleton _ _, ?_⟩, ?_, ?_, ?_, ?_⟩⟩
    · intro p hp; rw [List.mem_singleton.mp hp]; exact fun z => by cases z
    · intro p hp y hy
      rw [List.mem_singleton.mp hp] at hy
      rw [List.mem_singleton.mp hy]
      have := hx x List.mem_cons_self
      omega
    · intro p hp; rw [List.mem_singleton.mp hp]; exact Nat.le_refl _
    · intro p hp; rw [List.mem_singleton.mp hp]; exact (⟨by decide, by decide⟩ : Bd 1 (mB 1) 1)
    · exact (by decide : 1 ≤ nB 1)
  | .node l r, h5, hx => by
    have el : (lets (.node l r)).length = (lets l).length + (lets r).length := List.length_append
    rw [el] at h5
    have p1 := lets_pos l
    have p2 := lets_pos r
    have hl := (said_b l (by omega) fun x h => hx x (List.mem_append_left _ h)).b
    have hr := (said_b r (by omega) fun x h => hx x (List.mem_append_right _ h)).b
    obtain ⟨k1, k2⟩ := bkey p1 p2 (by omega)
    have ea : addAll (joinL (saidT r) (negS (saidT l))) (joinT (saidT l) (saidT r)) = addAll (joinL (saidT l) (saidT r) ++ joinL (saidT r) (negS (saidT l))) [] := by rw [addAll_app]; rfl
    have hd := DicB.of_all (c := 4) (k := (lets l).length + (lets r).length) (N := 1) (M := mB (lets l).length * mB (lets r).length) (by decide) (ts := joinL (saidT l) (saidT r) ++ joinL (saidT r) (negS (saidT l))) (fun t ht => by
      rcases List.mem_append.mp ht with ht | ht
      · obtain ⟨p, hp, q, hq, rfl⟩ := mem_join ht
        refine ⟨fun x hx => ?_, by rw [List.length_append]; exact Nat.add_le_add (hl.ln p hp) (hr.ln q hq)⟩
        rcases List.mem_append.mp hx with hx | hx
        · exact hl.lt p hp x hx
        · exact hr.lt q hq x hx
      · obtain ⟨p, hp, q, hq, rfl⟩ := mem_join ht
        obtain ⟨q', hq', rfl⟩ := mem_neg hq
        refine ⟨fun x hx => ?_, by rw [List.length_append, Nat.add_comm (lets l).length]; exact Nat.add_le_add (hr.ln p hp) (hl.ln q' hq')⟩
        rcases List.mem_append.mp hx with hx | hx
        · exact hr.lt p hp x hx
        · exact hl.lt q' hq' x hx) (fun t ht => by
      rcases List.mem_append.mp ht with ht | ht
      · obtain ⟨p, hp, q, hq, rfl⟩ := mem_join ht
        exact (hl.bd p hp).mul (hr.bd q hq)
      · obtain ⟨p, hp, q, hq, rfl⟩ := mem_join ht
        obtain ⟨q', hq', rfl⟩ := mem_neg hq
        rw [Nat.mul_comm]
        exact (hr.bd p hp).mul (hl.bd q' hq').neg)
    have hlen : (joinL (saidT l) (saidT r) ++ joinL (saidT r) (negS (saidT l))).length ≤ 2 * (nB (lets l).length * nB (lets r).length) := by
      rw [List.length_append, joinL_len, joinL_len, neg_len, Nat.mul_comm (saidT r).length]
      have := Nat.mul_le_mul hl.sz hr.sz
      omega
    refine ⟨?_⟩
    rw [el]
    have ht := hd.told
    have es : saidT (.node l r) = toldT (addAll (joinL (saidT l) (saidT r) ++ joinL (saidT r) (negS (saidT l))) []) := by rw [← ea]; rfl
    rw [es]
    exact ⟨ht.sm, ht.lt, ht.ln, fun p hp => (ht.bd p hp).mono (Nat.le_trans (Nat.mul_le_mul_right _ hlen) k2), Nat.le_trans ht.sz (Nat.le_trans hlen k1)⟩
theorem contrary_ok (q : Rat) : m_contrary [eRat.en q] = .ok (eRat.en (-q), .non) := by
  have e : eRat.en (-q) = .tup [.int (-q.num), .int ((q.den : Nat) : Int)] := rat_en (Rat.neg_num q) (Rat.neg_den q)
  rw [e]
  simp (disch := first | assumption | decide | omega) only [m_contrary, b_contrary, runF, m0, sSeq, sSet, sIf, sRet, sRetN, sExpr, sSkip_ok, sSetA, sSetIx, sFor, sPar, sBind, sAug, eVar, eCon_ok, eOp2, eOp1, eCall, eCallM, eCallT, eTup, eLst, eArg, eIf, tVal, tNotF, tAndF, tOrF, eB, eAndF, eOrF, eNotF, eIxA, eIxO, eCatO, ixA_lst, ixA_tup, ixA_scr, eDNew, eDGet, eDGetO, eDPop, eSortK, eMM, aHoleQ, aHole, aNil_ok, aCons, oNone_ok, oSome, eSlice, eSliceL, iSeqA, iSeq, iRange, iArg, ePeek, tPeek, eOwnM, tYes_ok, bind_ok, bind_exc, bind_stuck, of_some, flatD, SW.gName, List.getD_cons_zero, List.getD_cons_succ, List.set_cons_zero, List.set_cons_succ, List.map_cons, List.map_nil, List.length_cons, List.length_nil, List.cons_append, List.nil_append, List.replicate, Nat.reduceAdd, Nat.reduceSub, addD_int, subD_int, negD_int, repD_int, modD_int, fdivD_int, ltA_int, leA_int, gtA_int, geA_int, eqD_int, neD_int, pow_10_18, pow_10_60, r0, r1]
theorem one_ok : k_ONE = eRat.en 1 := rfl
theorem neg_comp {y0 y2 y3 : Option D} (A : SumT) : eComp [4, 5] (iSeqA (eVar 1)) (gTup 2 (gCons (gName 4) (gCons (gName 5) gNil))) tYesF (eTup (aCons (eVar 4) (aCons (eCall m_contrary (aCons (eVar 5) aNil)) aNil))) [y0, some (eSum.en A), y2, y3, none, none] = .ok (eSum.en (negS A), [y0, some (eSum.en A), y2, y3, none, none]) := by
  have e := compL_of (vs := [4, 5]) (b := gTup 2 (gCons (gName 4) (gCons (gName 5) gNil))) (tt := tYesF) (fe := (eTup (aCons (eVar 4) (aCons (eCall m_contrary (aCons (eVar 5) aNil)) aNil)))) (f := eTerm.en) (ρ := [y0, some (eSum.en A), y2, y3, none, none]) (c := fun _ => true) (h := fun p : Wd × Rat => eTerm.en (p.1, -p.2)) A (by
    intro p hp
    refine ⟨[y0, some (eSum.en A), y2, y3, some (eWord.en p.1), some (eRat.en p.2)], rfl, _, rfl, (fun z => by cases z), fun _ => ⟨[y0, some (eSum.en A), y2, y3, some (eWord.en p.1), some (eRat.en p.2)], ?_, rfl⟩⟩
    simp (disch := first | assumption | decide | omega) only [runF, m0, sSeq, sSet, sIf, sRet, sRetN, sExpr, sSkip_ok, sSetA, sSetIx, sFor, sPar, sBind, sAug, eVar, eCon_ok, eOp2, eOp1, eCall, eCallM, eCallT, eTup, eLst, eArg, eIf, tVal, tNotF, tAndF, tOrF, eB, eAndF, eOrF, eNotF, eIxA, eIxO, eCatO, ixA_lst, ixA_tup, ixA_scr, eDNew, eDGet, eDGetO, eDPop, eSortK, eMM, aHoleQ, aHole, aNil_ok, aCons, oNone_ok, oSome, eSlice, eSliceL, iSeqA, iSeq, iRange, iArg, ePeek, tPeek, eOwnM, tYes_ok, bind_ok, bind_exc, bind_stuck, of_some, flatD, SW.gName, List.getD_cons_zero, List.getD_cons_succ, List.set_cons_zero, List.set_cons_succ, List.map_cons, List.map_nil, List.length_cons, List.length_nil, List.cons_append, List.nil_append, List.replicate, Nat.reduceAdd, Nat.reduceSub, addD_int, subD_int, negD_int, repD_int, modD_int, fdivD_int, ltA_int, leA_int, gtA_int, geA_int, eqD_int, neD_int, pow_10_18, pow_10_60, contrary_ok]
    rfl)
  rw [List.filter_eq_self.mpr fun a _ => rfl] at e
  have it : itemsA (eSum.en A) = some (A.map eTerm.en) := rfl
  have em : eSum.en (negS A) = .lst (A.map fun p => eTerm.en (p.1, -p.2)) := by
    show D.lst ((A.map _).map eTerm.en) = _
    rw [List.map_map]; rfl
  rw [em]
  simp (disch := first | assumption | decide | omega) only [eComp, runF, m0, sSeq, sSet, sIf, sRet, sRetN, sExpr, sSkip_ok, sSetA, sSetIx, sFor, sPar, sBind, sAug, eVar, eCon_ok, eOp2, eOp1, eCall, eCallM, eCallT, eTup, eLst, eArg, eIf, tVal, tNotF, tAndF, tOrF, eB, eAndF, eOrF, eNotF, eIxA, eIxO, eCatO, ixA_lst, ixA_tup, ixA_scr, eDNew, eDGet, eDGetO, eDPop, eSortK, eMM, aHoleQ, aHole, aNil_ok, aCons, oNone_ok, oSome, eSlice, eSliceL, iSeqA, iSeq, iRange, iArg, ePeek, tPeek, eOwnM, tYes_ok, bind_ok, bind_exc, bind_stuck, of_some, flatD, SW.gName, List.getD_cons_zero, List.getD_cons_succ, List.set_cons_zero, List.set_cons_succ, List.map_cons, List.map_nil, List.length_cons, List.length_nil, List.cons_append, List.nil_append, List.replicate, Nat.reduceAdd, Nat.reduceSub, addD_int, subD_int, negD_int, repD_int, modD_int, fdivD_int, ltA_int, leA_int, gtA_int, geA_int, eqD_int, neD_int, pow_10_18, pow_10_60, it, e]
theorem tok_w (w : Wd) : tokL (w.map D.int) = true := by
  induction w with
  | nil => rfl
  | cons x w ih => exact ih
theorem tok_sum (a : SumT) : tokL (a.map eTerm.en) = true := by
  induction a with
  | nil => rfl
  | cons p a ih =>
    show (tokD (eTerm.en p) && tokL (a.map eTerm.en)) = true
    rw [ih]
    show ((tokL (p.1.map D.int) && (true && true)) && true) = true
    rw [tok_w]
    rfl
theorem said_by_ok : ∀ (n : Nat) (t : Tr), t.depth < n → (lets t).length ≤ 5 → (∀ x ∈ lets t, x < 4) → mr_said_by n [t.en] = .ok (eSum.en (saidT t), .non)
  | 0, t, h, _, _ => by omega
  | n + 1, .leaf x, _, _, _ => by
    have i0 : isiD [.int ((x : Nat) : Int), .ty .tuple] = some (.bl false) := rfl
    simp (disch := first | assumption | decide | omega) only [mr_said_by, b_said_by, runF, m0, sSeq, sSet, sIf, sRet, sRetN, sExpr, sSkip_ok, sSetA, sSetIx, sFor, sPar, sBind, sAug, eVar, eCon_ok, eOp2, eOp1, eCall, eCallM, eCallT, eTup, eLst, eArg, eIf, tVal, tNotF, tAndF, tOrF, eB, eAndF, eOrF, eNotF, eIxA, eIxO, eCatO, ixA_lst, ixA_tup, ixA_scr, eDNew, eDGet, eDGetO, eDPop, eSortK, eMM, aHoleQ, aHole, aNil_ok, aCons, oNone_ok, oSome, eSlice, eSliceL, iSeqA, iSeq, iRange, iArg, ePeek, tPeek, eOwnM, tYes_ok, bind_ok, bind_exc, bind_stuck, of_some, flatD, SW.gName, List.getD_cons_zero, List.getD_cons_succ, List.set_cons_zero, List.set_cons_succ, List.map_cons, List.map_nil, List.length_cons, List.length_nil, List.cons_append, List.nil_append, List.replicate, Nat.reduceAdd, Nat.reduceSub, addD_int, subD_int, negD_int, repD_int, modD_int, fdivD_int, ltA_int, leA_int, gtA_int, geA_int, eqD_int, neD_int, pow_10_18, pow_10_60, Tr.en, i0, Bool.not_false, if_true, one_ok]
    rfl
  | n + 1, .node l r, h, h5, hx => by
    have i0 : isiD [.tup [l.en, r.en], .ty .tuple] = some (.bl true) := rfl
    have x0 : ixA (.tup [l.en, r.en]) (.int 0) = some l.en := rfl
    have x1 : ixA (.tup [l.en, r.en]) (.int 1) = some r.en := rfl
    have el : (lets (.node l r)).length = (lets l).length + (lets r).length := List.length_append
    rw [el] at h5
    simp only [Tr.depth] at h
    have p1 := lets_pos l
    have p2 := lets_pos r
    have hxl : ∀ x ∈ lets l, x < 4 := fun x h => hx x (List.mem_append_left _ h)
    have hxr : ∀ x ∈ lets r, x < 4 := fun x h => hx x (List.mem_append_right _ h)
    have t1 := said_by_ok n l (by omega) (by omega) hxl
    have t2 := said_by_ok n r (by omega) (by omega) hxr
    have hl := (said_b l (by omega) hxl).b
    have hr := (said_b r (by omega) hxr).b
    obtain ⟨c1, c2, c3⟩ := btop p1 p2 (by omega)
    obtain ⟨_, _, c4⟩ := btop p2 p1 (by omega)
    have S : Small 1 (mB (lets l).length * mB (lets r).length) := small_of (by decide) (by decide) (by omega)
    have Sl : Small 1 (mB (lets l).length) := small_of (by decide) (by decide) (by omega)
    have Sr : Small 1 (mB (lets r).length) := small_of (by decide) (by decide) (by omega)
    have hn := Nat.mul_le_mul hl.sz hr.sz
    have zl : ∀ p ∈ saidT l, p.1.length ≤ 500 ∧ Sz 4000 p.2 := fun p hp => ⟨by have := hl.ln p hp; omega, Sl.sz (hl.bd p hp)⟩
    have zr : ∀ p ∈ saidT r, p.1.length ≤ 500 ∧ Sz 4000 p.2 := fun p hp => ⟨by have := hr.ln p hp; omega, Sr.sz (hr.bd p hp)⟩
    have j1 := joined_to_ok S (A := saidT l) (B := saidT r) zl zr (fun p hp q hq => (hl.bd p hp).mul (hr.bd q hq)) (by omega)
    have ac := Acc.all S.n0 (acc_nil 1 (mB (lets l).length * mB (lets r).length)) (ts := joinL (saidT l) (saidT r)) (fun t ht => by
      obtain ⟨p, hp, q, hq, rfl⟩ := mem_join ht
      exact (hl.bd p hp).mul (hr.bd q hq))
    rw [Nat.zero_add, joinL_len] at ac
    have j2 := joined_to_acc S (A := saidT r) (B := negS (saidT l)) (s0 := joinT (saidT l) (saidT r)) ac zr (fun q hq => by
      obtain ⟨q', hq', rfl⟩ := mem_neg hq
      exact ⟨(zl q' hq').1, (zl q' hq').2.neg⟩) (fun p hp q hq => by
      obtain ⟨q', hq', rfl⟩ := mem_neg hq
      rw [Nat.mul_comm]
      exact (hr.bd p hp).mul (hl.bd q' hq').neg) (by
      rw [neg_len, Nat.mul_comm (saidT r).length]
      omega)
    have g : Good (addAll (joinL (saidT r) (negS (saidT l))) (joinT (saidT l) (saidT r))) := good_addAll (joinT_good _ _)
    have ts := told_sum_ok g
    have en : D.dct [] = dS [] := rfl
    have nc := neg_comp (y0 := some (.tup [l.en, r.en])) (y2 := some (eSum.en (saidT r))) (y3 := some (dS (joinT (saidT l) (saidT r)))) (saidT l)
    have tk := tok_sum (toldT (addAll (joinL (saidT r) (negS (saidT l))) (joinT (saidT l) (saidT r))))
    have ed : eSum.en (toldT (addAll (joinL (saidT r) (negS (saidT l))) (joinT (saidT l) (saidT r)))) = .lst ((toldT (addAll (joinL (saidT r) (negS (saidT l))) (joinT (saidT l) (saidT r)))).map eTerm.en) := rfl
    rw [ed] at ts
    simp (disch := first | assumption | decide | omega) only [mr_said_by, b_said_by, runF, m0, sSeq, sSet, sIf, sRet, sRetN, sExpr, sSkip_ok, sSetA, sSetIx, sFor, sPar, sBind, sAug, eVar, eCon_ok, eOp2, eOp1, eCall, eCallM, eCallT, eTup, eLst, eArg, eIf, tVal, tNotF, tAndF, tOrF, eB, eAndF, eOrF, eNotF, eIxA, eIxO, eCatO, ixA_lst, ixA_tup, ixA_scr, eDNew, eDGet, eDGetO, eDPop, eSortK, eMM, aHoleQ, aHole, aNil_ok, aCons, oNone_ok, oSome, eSlice, eSliceL, iSeqA, iSeq, iRange, iArg, ePeek, tPeek, eOwnM, tYes_ok, bind_ok, bind_exc, bind_stuck, of_some, flatD, SW.gName, List.getD_cons_zero, List.getD_cons_succ, List.set_cons_zero, List.set_cons_succ, List.map_cons, List.map_nil, List.length_cons, List.length_nil, List.cons_append, List.nil_append, List.replicate, Nat.reduceAdd, Nat.reduceSub, addD_int, subD_int, negD_int, repD_int, modD_int, fdivD_int, ltA_int, leA_int, gtA_int, geA_int, eqD_int, neD_int, pow_10_18, pow_10_60, Tr.en, i0, x0, x1, Bool.not_true, Bool.false_eq_true, if_false, if_true, t1, t2, en, j1, nc, j2, ePeekL, ts, tk]
    rfl
theorem check_count_c {c : Nat} (c1 : 1 ≤ c) (c4 : c ≤ 4) : m_check_count [.int ((c : Nat) : Int)] = .ok (.non, .non) := by
  have d1 : ¬ ((c : Nat) : Int) < 1 := by omega
  have d2 : ¬ (4 : Int) < ((c : Nat) : Int) := by omega
  simp (disch := first | assumption | decide | omega) only [m_check_count, b_check_count, runF, m0, sSeq, sSet, sIf, sRet, sRetN, sExpr, sSkip_ok, sSetA, sSetIx, sFor, sPar, sBind, sAug, eVar, eCon_ok, eOp2, eOp1, eCall, eCallM, eCallT, eTup, eLst, eArg, eIf, tVal, tNotF, tAndF, tOrF, eB, eAndF, eOrF, eNotF, eIxA, eIxO, eCatO, ixA_lst, ixA_tup, ixA_scr, eDNew, eDGet, eDGetO, eDPop, eSortK, eMM, aHoleQ, aHole, aNil_ok, aCons, oNone_ok, oSome, eSlice, eSliceL, iSeqA, iSeq, iRange, iArg, ePeek, tPeek, eOwnM, tYes_ok, bind_ok, bind_exc, bind_stuck, of_some, flatD, SW.gName, List.getD_cons_zero, List.getD_cons_succ, List.set_cons_zero, List.set_cons_succ, List.map_cons, List.map_nil, List.length_cons, List.length_nil, List.cons_append, List.nil_append, List.replicate, Nat.reduceAdd, Nat.reduceSub, addD_int, subD_int, negD_int, repD_int, modD_int, fdivD_int, ltA_int, leA_int, gtA_int, geA_int, eqD_int, neD_int, pow_10_18, pow_10_60, k_MOST_LETTERS, is_whole_ok, decide_eq_false d1, decide_eq_false d2, Bool.not_true, Bool.false_eq_true, if_false]
/-! how many words there are -/
def encW : Wd → Nat
  | [] => 0
  | x :: w => 7 * encW w + (x.toNat + 1)
theorem enc_lt : ∀ {w : Wd}, (∀ x ∈ w, 0 ≤ x ∧ x < 6) → encW w < 7 ^ w.length
  | [], _ => by decide
  | x :: w, h => by
    have ih := enc_lt (w := w) fun y hy => h y (List.mem_cons_of_mem _ hy)
    have hx := h x (by simp)
    show 7 * encW w + (x.toNat + 1) < 7 ^ (w.length + 1)
    rw [Nat.pow_succ]
    omega
theorem enc_inj : ∀ {v w : Wd}, (∀ x ∈ v, 0 ≤ x ∧ x < 6) → (∀ x ∈ w, 0 ≤ x ∧ x < 6) → encW v = encW w → v = w
  | [], [], _, _, _ => rfl
  | [], y :: w, _, h, e => by
    have : 0 = 7 * encW w + (y.toNat + 1) := e
    omega
  | x :: v, [], _, _, e => by
    have : 7 * encW v + (x.toNat + 1) = 0 := e
    omega
  | x :: v, y :: w, h1, h2, e => by
    have e : 7 * encW v + (x.toNat + 1) = 7 * encW w + (y.toNat + 1) := e
    have hx := h1 x (by simp)
    have hy := h2 y (by simp)
    have e1 : encW v = encW w := by omega
    have e2 : x = y := by omega
    rw [e2, enc_inj (fun z hz => h1 z (List.mem_cons_of_mem _ hz)) (fun z hz => h2 z (List.mem_cons_of_mem _ hz)) e1]
theorem nodup_lt : ∀ {N : Nat} {l : List Nat}, l.Nodup → (∀ x ∈ l, x < N) → l.length ≤ N
  | 0, l, _, h => by
    cases l with
    | nil => exact Nat.le_refl _
    | cons x l => have := h x (by simp); omega
  | N + 1, l, hn, h => by
    by_cases hm : N ∈ l
    · have h1 := nodup_lt (N := N) (l := l.erase N) (hn.erase N) fun x hx => by
        have := (List.Nodup.mem_erase_iff hn).mp hx
        have := h x this.2
        omega
      rw [List.length_erase_of_mem hm] at h1
      omega
    · have h1 := nodup_lt (N := N) hn fun x hx => by
        have := h x hx
        have : x ≠ N := fun e => hm (e ▸ hx)
        omega
      omega
theorem nodup_map_on {α β : Type} (f : α → β) : ∀ {l : List α}, l.Nodup → (∀ x ∈ l, ∀ y ∈ l, f x = f y → x = y) → (l.map f).Nodup
  | [], _, _ => List.nodup_nil
  | x :: l, h, hi => by
    obtain ⟨h1, h2⟩ := List.nodup_cons.mp h
    rw [List.map_cons, List.nodup_cons]
    refine ⟨fun z => ?_, nodup_map_on f h2 fun y hy u hu => hi y (List.mem_cons_of_mem _ hy) u (List.mem_cons_of_mem _ hu)⟩
    obtain ⟨y, hy, e⟩ := List.mem_map.mp z
    have := hi y (List.mem_cons_of_mem _ hy) x (by simp) e
    exact h1 (this ▸ hy)
theorem wd_many {n : Nat} (n6 : n ≤ 6) {l : SumT} (hn : (l.map (·.1)).Nodup) (h : ∀ p ∈ l, WdOk n p.1) : l.length ≤ 16807 := by
  have hr : ∀ w ∈ l.map (·.1), w.length ≤ 5 ∧ ∀ x ∈ w, 0 ≤ x ∧ x < 6 := fun w hw => by
    obtain ⟨p, hp, rfl⟩ := List.mem_map.mp hw
    exact ⟨(h p hp).1, fun x hx => by have := (h p hp).2 x hx; omega⟩
  have h1 := nodup_lt (N := 16807) (l := (l.map (·.1)).map encW) (nodup_map_on encW hn fun x hx y hy => enc_inj (hr x hx).2 (hr y hy).2) fun x hx => by
    obtain ⟨w, hw, rfl⟩ := List.mem_map.mp hx
    have a := enc_lt (hr w hw).2
    have b : 7 ^ w.length ≤ 7 ^ 5 := Nat.pow_le_pow_right (by decide) (hr w hw).1
    have : (7 : Nat) ^ 5 = 16807 := by decide
    omega
  simpa using h1

theorem two_le {a b : Nat} (h : a ≤ b) : 2 ^ a ≤ 2 ^ b := Nat.pow_le_pow_right (by decide) h
theorem mul_lt2 {a b i j : Nat} (h1 : a < 2 ^ i) (h2 : b < 2 ^ j) : a * b < 2 ^ (i + j) := by
  rw [Nat.pow_add]
  exact Nat.mul_lt_mul_of_lt_of_le h1 (Nat.le_of_lt h2) (Nat.pow_pos (by decide))
/-! adding up -/
structure AccL (N M c j k : Nat) (l : SumT) : Prop where
  good : Good l
  bd : ∀ w, Bd N (k * M) (coef l w)
  wd : ∀ p ∈ l, p.1.length ≤ j ∧ ∀ x ∈ p.1, 0 ≤ x ∧ x < (c : Int)
theorem accL_nil (N M c j : Nat) : AccL N M c j 0 [] := ⟨good_nil, fun w => bd_zero _ _, by simp⟩
theorem AccL.add {N M c j k : Nat} {l : SumT} {w : Wd} {q : Rat} (hN : 0 < N) (h : AccL N M c j k l) (hq : Bd N M q) (hw : w.length ≤ j) (hx : ∀ x ∈ w, 0 ≤ x ∧ x < (c : Int)) : AccL N M c j (k + 1) (addT l w q) := by
  refine ⟨h.good.add w q, fun v => ?_, fun p hp => ?_⟩
  · rw [coef_add h.good]
    have e : (k + 1) * M = k * M + M := Nat.succ_mul k M
    rw [e]
    refine Bd.add (by omega) (h.bd v) ?_
    split
    · exact hq
    · exact bd_zero _ _
  · rcases mem_add hp with e | e
    · rw [e]; exact ⟨hw, hx⟩
    · exact h.wd p e
theorem AccL.len {N M c j k : Nat} {l : SumT} (h : AccL N M c j k l) (j5 : j ≤ 5) (c6 : c ≤ 6) : l.length ≤ 16807 := wd_many c6 h.good.nd fun p hp => ⟨Nat.le_trans (h.wd p hp).1 j5, (h.wd p hp).2⟩
theorem AccL.sz {N M c j k a : Nat} {l : SumT} (h : AccL N M c j k l) (n0 : 0 < N) (hN : N < 2 ^ a) (hM : M < 2 ^ a) (hk : k ≤ 1000000000) (w : Wd) : Sz (2 * a + 30) (coef l w) := by
  refine (h.bd w).sz (by omega) (Nat.lt_of_lt_of_le hN (two_le (by omega))) ?_
  have := mul_lt2 (mul_lt2 (show k < 2 ^ 30 by omega) hM) hN
  exact Nat.lt_of_lt_of_le this (two_le (by omega))
theorem bd_sz2 {N M a : Nat} {q : Rat} (h : Bd N M q) (n0 : 0 < N) (hN : N < 2 ^ a) (hM : M < 2 ^ a) : Sz (2 * a) q := by
  refine h.sz (by omega) (Nat.lt_of_lt_of_le hN (two_le (by omega))) ?_
  rw [show 2 * a = a + a by omega]
  exact mul_lt2 hM hN
/-- less -/
def subT' (A B : SumT) : SumT := B.foldl (fun s r => addT s r.1 (-r.2)) A
theorem lin_subT (f : Wd → Rat) : ∀ (B A : SumT), Good A → Good (subT' A B) ∧ linS f (subT' A B) = linS f A - linS f B
  | [], A, g => ⟨g, by show linS f A = linS f A - 0; grind⟩
  | r :: B, A, g => by
    obtain ⟨g1, e⟩ := lin_subT f B (addT A r.1 (-r.2)) (g.add _ _)
    refine ⟨g1, ?_⟩
    show linS f (subT' (addT A r.1 (-r.2)) B) = linS f A - (r.2 * f r.1 + linS f B)
    rw [e, lin_add g.nd]
    grind
/-! letters joined: what the law works out -/
def inLaw : Rho → Out Fl := (sExpr (eCallM m__law_put 0 2 (aHoleQ 2 (aCons (eOp2 addD (eVar 3) (eVar 4)) (aCons (eCall m__law_by (aCons (eOp2 ixA (eVar 0) (eVar 3)) (aCons (eOp2 ixA (eVar 1) (eVar 4)) aNil))) aNil)))))
theorem law_join_in {N M k : Nat} (S : Small N M) {A B : SumT} (gB : Good B) {w : Wd} {q : Rat} (hA : getT A w = some q) (hw : w.length ≤ 500) (hq : Sz 4000 q) (hR : ∀ r ∈ B, r.1.length ≤ 500 ∧ Sz 4000 r.2 ∧ Bd N M (q * r.2)) {s : SumT} (h : Acc N M k s) (hk : k + B.length ≤ 100000) (y : Option D) :
    ∃ ρ', forL (gName 4) inLaw (B.map fun p => eWord.en p.1) [some (dS A), some (dS B), some (dS s), some (eWord.en w), y] = .ok (.nx ρ') ∧ Acc N M (k + B.length) (B.foldl (fun s r => addT s (w ++ r.1) (q * r.2)) s) ∧ ∃ y, ρ' = [some (dS A), some (dS B), some (dS (B.foldl (fun s r => addT s (w ++ r.1) (q * r.2)) s)), some (eWord.en w), y] := by
  obtain ⟨ρ', e, k', ha, hl, _, y', rfl⟩ := forL_foldr (b := gName 4) (g := inLaw) (f := fun p : Wd × Rat => eWord.en p.1) (step := fun (s : SumT) (r : Wd × Rat) => addT s (w ++ r.1) (q * r.2))
    (St := fun l s ρ => ∃ k', Acc N M k' s ∧ k' + l.length = k + B.length ∧ (∀ r ∈ l, r ∈ B) ∧ ∃ y, ρ = [some (dS A), some (dS B), some (dS s), some (eWord.en w), y]) B s _ ⟨k, h, rfl, fun _ z => z, y, rfl⟩ (by
    rintro r l s ρ ⟨k', ha, hl, hm, y, rfl⟩
    obtain ⟨r1, r2, r3⟩ := hR r (hm r List.mem_cons_self)
    rw [List.length_cons] at hl
    have hk' : k' ≤ 100000 := by omega
    have e1 := law_by_ok hq r2 (by decide)
    have a1 := addD_w w r.1 (by omega)
    have x1 := ixA_E hA
    have x2 := ixA_E (getT_of_mem gB.nd (q := r.2) (hm r List.mem_cons_self))
    have p1 := law_put_ok (l := s) (w := w ++ r.1) (q := q * r.2) (ha.sz S hk' _) (S.sz r3) (by have := ha.len; omega)
    refine ⟨_, [some (dS A), some (dS B), some (dS (addT s (w ++ r.1) (q * r.2))), some (eWord.en w), some (eWord.en r.1)], rfl, ?_, k' + 1, ha.add S.n0 r3, by omega, fun x hx => hm x (List.mem_cons_of_mem _ hx), _, rfl⟩
    simp (disch := first | assumption | decide | omega) only [inLaw, runF, m0, sSeq, sSet, sIf, sRet, sRetN, sExpr, sSkip_ok, sSetA, sSetIx, sFor, sPar, sBind, sAug, eVar, eCon_ok, eOp2, eOp1, eCall, eCallM, eCallT, eTup, eLst, eArg, eIf, tVal, tNotF, tAndF, tOrF, eB, eAndF, eOrF, eNotF, eIxA, eIxO, eCatO, ixA_lst, ixA_tup, ixA_scr, eDNew, eDGet, eDGetO, eDPop, eSortK, eMM, aHoleQ, aHole, aNil_ok, aCons, oNone_ok, oSome, eSlice, eSliceL, iSeqA, iSeq, iRange, iArg, ePeek, tPeek, eOwnM, tYes_ok, bind_ok, bind_exc, bind_stuck, of_some, flatD, SW.gName, List.getD_cons_zero, List.getD_cons_succ, List.set_cons_zero, List.set_cons_succ, List.map_cons, List.map_nil, List.length_cons, List.length_nil, List.cons_append, List.nil_append, List.replicate, Nat.reduceAdd, Nat.reduceSub, addD_int, subD_int, negD_int, repD_int, modD_int, fdivD_int, ltA_int, leA_int, gtA_int, geA_int, eqD_int, neD_int, pow_10_18, pow_10_60, x1, x2, a1, e1, p1, Option.getD_some])
  rw [List.length_nil] at hl
  have hl : k' = k + B.length := hl
  subst hl
  exact ⟨_, e, ha, _, rfl⟩
theorem law_joined_ok {c k1 k2 n1 n2 N1 N2 M1 M2 : Nat} {A B : SumT} (hA : DicB c k1 n1 N1 M1 A) (hB : DicB c k2 n2 N2 M2 B) (S1 : Small N1 M1) (S2 : Small N2 M2) (S : Small (N1 * N2) (M1 * M2)) (hk : k1 + k2 ≤ 5) (hn : n1 * n2 ≤ 100000) :
    m__law_joined [dS A, dS B] = .ok (dS (joinT A B), .non) := by
  have hnn : A.length * B.length ≤ 100000 := Nat.le_trans (Nat.mul_le_mul hA.sz hB.sz) hn
  obtain ⟨ρ', e, k', ha, hl, _, x1, x2, rfl⟩ := forL_foldr (b := gName 3) (g := sFor (iSeqA (eVar 1)) (gName 4) inLaw) (f := fun p : Wd × Rat => eWord.en p.1) (step := fun (s : SumT) (p : Wd × Rat) => B.foldl (fun s r => addT s (p.1 ++ r.1) (p.2 * r.2)) s)
    (St := fun l s ρ => ∃ k', Acc (N1 * N2) (M1 * M2) k' s ∧ k' + l.length * B.length = A.length * B.length ∧ (∀ r ∈ l, r ∈ A) ∧ ∃ x1 x2, ρ = [some (dS A), some (dS B), some (dS s), x1, x2]) A [] [some (dS A), some (dS B), some (dS []), none, none] ⟨0, acc_nil _ _, by omega, fun _ z => z, _, _, rfl⟩ (by
    rintro p l s ρ ⟨k', ha, hl, hm, x1, x2, rfl⟩
    have hp := hm p List.mem_cons_self
    rw [List.length_cons, Nat.add_mul, Nat.one_mul] at hl
    obtain ⟨ρ2, e2, h2, y, rfl⟩ := law_join_in S (A := A) hB.gd (getT_of_mem hA.gd.nd (q := p.2) hp) (by have := hA.ln p hp; omega) (S1.sz (hA.bd p hp)) (fun r hr => ⟨by have := hB.ln r hr; omega, S2.sz (hB.bd r hr), (hA.bd p hp).mul (hB.bd r hr)⟩) ha (by omega) x2
    refine ⟨[some (dS A), some (dS B), some (dS s), some (eWord.en p.1), x2], [some (dS A), some (dS B), some (dS (B.foldl (fun s r => addT s (p.1 ++ r.1) (p.2 * r.2)) s)), some (eWord.en p.1), y], rfl, ?_, k' + B.length, h2, by omega, fun x hx => hm x (List.mem_cons_of_mem _ hx), _, _, rfl⟩
    have it : itemsA (dS B) = some (B.map fun p => eWord.en p.1) := by rw [items_E, List.map_map]; rfl
    simp (disch := first | assumption | decide | omega) only [runF, m0, sSeq, sSet, sIf, sRet, sRetN, sExpr, sSkip_ok, sSetA, sSetIx, sFor, sPar, sBind, sAug, eVar, eCon_ok, eOp2, eOp1, eCall, eCallM, eCallT, eTup, eLst, eArg, eIf, tVal, tNotF, tAndF, tOrF, eB, eAndF, eOrF, eNotF, eIxA, eIxO, eCatO, ixA_lst, ixA_tup, ixA_scr, eDNew, eDGet, eDGetO, eDPop, eSortK, eMM, aHoleQ, aHole, aNil_ok, aCons, oNone_ok, oSome, eSlice, eSliceL, iSeqA, iSeq, iRange, iArg, ePeek, tPeek, eOwnM, tYes_ok, bind_ok, bind_exc, bind_stuck, of_some, flatD, SW.gName, List.getD_cons_zero, List.getD_cons_succ, List.set_cons_zero, List.set_cons_succ, List.map_cons, List.map_nil, List.length_cons, List.length_nil, List.cons_append, List.nil_append, List.replicate, Nat.reduceAdd, Nat.reduceSub, addD_int, subD_int, negD_int, repD_int, modD_int, fdivD_int, ltA_int, leA_int, gtA_int, geA_int, eqD_int, neD_int, pow_10_18, pow_10_60, it, e2])
  have it : itemsA (dS A) = some (A.map fun p => eWord.en p.1) := by rw [items_E, List.map_map]; rfl
  have eb : b__law_joined = (sSeq (sSet 2 eDNew) (sSeq (sFor (iSeqA (eVar 0)) (gName 3) (sFor (iSeqA (eVar 1)) (gName 4) inLaw)) (sRet (eVar 2)))) := rfl
  have en : D.dct [] = dS [] := rfl
  unfold joinT
  rw [← foldl_join]
  simp (disch := first | assumption | decide | omega) only [m__law_joined, eb, runF, m0, sSeq, sSet, sIf, sRet, sRetN, sExpr, sSkip_ok, sSetA, sSetIx, sFor, sPar, sBind, sAug, eVar, eCon_ok, eOp2, eOp1, eCall, eCallM, eCallT, eTup, eLst, eArg, eIf, tVal, tNotF, tAndF, tOrF, eB, eAndF, eOrF, eNotF, eIxA, eIxO, eCatO, ixA_lst, ixA_tup, ixA_scr, eDNew, eDGet, eDGetO, eDPop, eSortK, eMM, aHoleQ, aHole, aNil_ok, aCons, oNone_ok, oSome, eSlice, eSliceL, iSeqA, iSeq, iRange, iArg, ePeek, tPeek, eOwnM, tYes_ok, bind_ok, bind_exc, bind_stuck, of_some, flatD, SW.gName, List.getD_cons_zero, List.getD_cons_succ, List.set_cons_zero, List.set_cons_succ, List.map_cons, List.map_nil, List.length_cons, List.length_nil, List.cons_append, List.nil_append, List.replicate, Nat.reduceAdd, Nat.reduceSub, addD_int, subD_int, negD_int, repD_int, modD_int, fdivD_int, ltA_int, leA_int, gtA_int, geA_int, eqD_int, neD_int, pow_10_18, pow_10_60, it, en, e, Option.getD_some]

/-! slices of words -/
/-! words of letters -/
def eNat : Enc Nat where
  en n := .int ((n : Nat) : Int)
  py n := .int ((n : Nat) : Int)
  dp := 0
  hpy _ := rfl
  heq a b := by
    show (((a : Nat) : Int) == ((b : Nat) : Int)) = _
    rw [Bool.beq_eq_decide_eq, Bool.eq_iff_iff, decide_eq_true_iff, decide_eq_true_iff]
    omega
  lay _ := by simp [PyData.canLay0]
  hdp _ := by simp [PyData.depth]
abbrev eW : Enc (List Nat) := eTupOf eNat
abbrev eWs : Enc (List (List Nat)) := eLstOf eW
theorem eW_int (w : List Nat) : eW.en w = eWord.en (w.map Int.ofNat) := by
  show D.tup (w.map eNat.en) = D.tup ((w.map Int.ofNat).map D.int)
  rw [List.map_map]
  rfl
def ltW : List Nat → List Nat → Bool
  | _, [] => false
  | [], _ :: _ => true
  | x :: xs, y :: ys => if x = y then ltW xs ys else decide (x < y)
theorem ltN_cast : ∀ a b : List Nat, ltN (a.map Int.ofNat) (b.map Int.ofNat) = ltW a b
  | [], [] => rfl
  | _ :: _, [] => rfl
  | [], _ :: _ => rfl
  | x :: xs, y :: ys => by
    rw [List.map_cons, List.map_cons, ltN, ltW, ltN_cast xs ys]
    by_cases h : x = y
    · rw [if_pos (by rw [h]), if_pos h]
    · rw [if_neg (fun z => h (Int.ofNat.inj z)), if_neg h, Bool.eq_iff_iff, decide_eq_true_iff, decide_eq_true_iff]
      exact Int.ofNat_lt
theorem gtA_w (a b : List Nat) : gtA (eW.en a) (eW.en b) = some (.bl (ltW b a)) := by rw [eW_int, eW_int, gtA_word, ltN_cast]
theorem leA_w (a b : List Nat) : leA (eW.en a) (eW.en b) = some (.bl (!ltW b a)) := by rw [eW_int, eW_int, leA_word, ltN_cast]
theorem geA_w (a b : List Nat) : geA (eW.en a) (eW.en b) = some (.bl (!ltW a b)) := by rw [eW_int, eW_int, geA_word, ltN_cast]
theorem neD_w0 (a : List Nat) : neD (eW.en a) (.tup []) = some (.bl (!decide (a = []))) := neD_enc eW (by decide) a []
theorem eqD_ws0 (a : List (List Nat)) : eqD (eWs.en a) (.lst []) = some (.bl (decide (a = []))) := eqD_enc eWs (by decide) a []
theorem lenD_w (a : List Nat) : lenA [eW.en a] = some (.int a.length) := by
  show some (D.int ((a.map eNat.en).length : Nat)) = _
  rw [List.length_map]
theorem take_w (a : List Nat) {k : Int} (h : 0 ≤ k) : sliceD (eW.en a) none (some k) = some (eW.en (a.take k.toNat)) := by
  show some (D.tup (cutD (a.map eNat.en) none (some k))) = _
  rw [cut_take _ h, ← List.map_take]
  rfl
theorem drop_w (a : List Nat) {k : Int} (h : 0 ≤ k) : sliceD (eW.en a) (some k) none = some (eW.en (a.drop k.toNat)) := by
  show some (D.tup (cutD (a.map eNat.en) (some k) none)) = _
  rw [cut_drop _ h, ← List.map_drop]
  rfl
theorem itemsOf_w (a : List Nat) : itemsA (eW.en a) = some (a.map eNat.en) := rfl
theorem isi_tup (a : List Nat) : isiD [eW.en a, .ty .tuple] = some (.bl true) := rfl
def LetW (n m : Nat) (w : List Nat) : Prop := w.length ≤ n ∧ ∀ x ∈ w, x < m

/-! the least turn -/
def leastT (w : List Nat) : Bool := ((List.range (w.length - 1)).all fun k => ltW w (w.drop (k + 1))) && !decide (w = [])
theorem is_least_ok (w : List Nat) (hw : w.length ≤ 5) : m_is_least [eW.en w] = .ok (.bl (leastT w), .non) := by
  have hr : rangeD [.int 1, .int w.length] = some ((List.range (w.length - 1)).map fun k => .int (1 + ((k : Nat) : Int))) := by
    rw [rangeD2 (by omega) (by omega) (by omega) (by omega) (by omega)]
    congr 3
    omega
  simp (disch := first | assumption | decide | omega) only [m_is_least, b_is_least, runF, m0, sSeq, sSet, sIf, sRet, sRetN, sExpr, sSkip_ok, sSetA, sSetIx, sFor, sPar, sBind, sAug, eVar, eCon_ok, eOp2, eOp1, eCall, eCallM, eCallT, eTup, eLst, eArg, eIf, tVal, tNotF, tAndF, tOrF, eB, eAndF, eOrF, eNotF, eIxA, eIxO, eCatO, ixA_lst, ixA_tup, ixA_scr, eDNew, eDGet, eDGetO, eDPop, eSortK, eMM, aHoleQ, aHole, aNil_ok, aCons, oNone_ok, oSome, eSlice, eSliceL, iSeqA, iSeq, iRange, iArg, ePeek, tPeek, eOwnM, tYes_ok, bind_ok, bind_exc, bind_stuck, of_some, flatD, SW.gName, List.getD_cons_zero, List.getD_cons_succ, List.set_cons_zero, List.set_cons_succ, List.map_cons, List.map_nil, List.length_cons, List.length_nil, List.cons_append, List.nil_append, List.replicate, Nat.reduceAdd, Nat.reduceSub, addD_int, subD_int, negD_int, repD_int, modD_int, fdivD_int, ltA_int, leA_int, gtA_int, geA_int, eqD_int, neD_int, pow_10_18, pow_10_60, lenD_w, hr]
  have key := forL_search (b := gName 1) (g := sIf (tVal (eOp2 geA (eVar 0) (eSlice (eVar 0) (oSome (eVar 1)) oNone))) (sRet (eCon (.bl false))) sSkip) (f := fun k : Nat => D.int (1 + ((k : Nat) : Int))) (St := fun ρ => ∃ y, ρ = [some (eW.en w), y]) (c := fun k => !ltW w (w.drop (k + 1))) (d := fun _ => .bl false) (List.range (w.length - 1)) [some (eW.en w), none] ⟨_, rfl⟩ (by
    rintro k hk ρ ⟨y, rfl⟩
    refine ⟨_, rfl, ?_⟩
    have ek : (1 + ((k : Nat) : Int)).toNat = k + 1 := by omega
    cases hc : ltW w (w.drop (k + 1)) with
    | true =>
      refine .inl ⟨rfl, [some (eW.en w), some (.int (1 + ((k : Nat) : Int)))], ?_, ⟨_, rfl⟩⟩
      simp (disch := first | assumption | decide | omega) only [runF, m0, sSeq, sSet, sIf, sRet, sRetN, sExpr, sSkip_ok, sSetA, sSetIx, sFor, sPar, sBind, sAug, eVar, eCon_ok, eOp2, eOp1, eCall, eCallM, eCallT, eTup, eLst, eArg, eIf, tVal, tNotF, tAndF, tOrF, eB, eAndF, eOrF, eNotF, eIxA, eIxO, eCatO, ixA_lst, ixA_tup, ixA_scr, eDNew, eDGet, eDGetO, eDPop, eSortK, eMM, aHoleQ, aHole, aNil_ok, aCons, oNone_ok, oSome, eSlice, eSliceL, iSeqA, iSeq, iRange, iArg, ePeek, tPeek, eOwnM, tYes_ok, bind_ok, bind_exc, bind_stuck, of_some, flatD, SW.gName, List.getD_cons_zero, List.getD_cons_succ, List.set_cons_zero, List.set_cons_succ, List.map_cons, List.map_nil, List.length_cons, List.length_nil, List.cons_append, List.nil_append, List.replicate, Nat.reduceAdd, Nat.reduceSub, addD_int, subD_int, negD_int, repD_int, modD_int, fdivD_int, ltA_int, leA_int, gtA_int, geA_int, eqD_int, neD_int, pow_10_18, pow_10_60, drop_w, ek, geA_w, hc, Bool.not_true, Bool.false_eq_true, if_false]
    | false =>
      refine .inr ⟨rfl, [some (eW.en w), some (.int (1 + ((k : Nat) : Int)))], ?_⟩
      simp (disch := first | assumption | decide | omega) only [runF, m0, sSeq, sSet, sIf, sRet, sRetN, sExpr, sSkip_ok, sSetA, sSetIx, sFor, sPar, sBind, sAug, eVar, eCon_ok, eOp2, eOp1, eCall, eCallM, eCallT, eTup, eLst, eArg, eIf, tVal, tNotF, tAndF, tOrF, eB, eAndF, eOrF, eNotF, eIxA, eIxO, eCatO, ixA_lst, ixA_tup, ixA_scr, eDNew, eDGet, eDGetO, eDPop, eSortK, eMM, aHoleQ, aHole, aNil_ok, aCons, oNone_ok, oSome, eSlice, eSliceL, iSeqA, iSeq, iRange, iArg, ePeek, tPeek, eOwnM, tYes_ok, bind_ok, bind_exc, bind_stuck, of_some, flatD, SW.gName, List.getD_cons_zero, List.getD_cons_succ, List.set_cons_zero, List.set_cons_succ, List.map_cons, List.map_nil, List.length_cons, List.length_nil, List.cons_append, List.nil_append, List.replicate, Nat.reduceAdd, Nat.reduceSub, addD_int, subD_int, negD_int, repD_int, modD_int, fdivD_int, ltA_int, leA_int, gtA_int, geA_int, eqD_int, neD_int, pow_10_18, pow_10_60, drop_w, ek, geA_w, hc, Bool.not_false, if_true])
  rcases key with ⟨hf, ρ', e, y, rfl⟩ | ⟨i, hf, ρ', e⟩
  · have ha := all_find hf
    simp only [Bool.not_not] at ha
    rw [e]
    simp (disch := first | assumption | decide | omega) only [runF, m0, sSeq, sSet, sIf, sRet, sRetN, sExpr, sSkip_ok, sSetA, sSetIx, sFor, sPar, sBind, sAug, eVar, eCon_ok, eOp2, eOp1, eCall, eCallM, eCallT, eTup, eLst, eArg, eIf, tVal, tNotF, tAndF, tOrF, eB, eAndF, eOrF, eNotF, eIxA, eIxO, eCatO, ixA_lst, ixA_tup, ixA_scr, eDNew, eDGet, eDGetO, eDPop, eSortK, eMM, aHoleQ, aHole, aNil_ok, aCons, oNone_ok, oSome, eSlice, eSliceL, iSeqA, iSeq, iRange, iArg, ePeek, tPeek, eOwnM, tYes_ok, bind_ok, bind_exc, bind_stuck, of_some, flatD, SW.gName, List.getD_cons_zero, List.getD_cons_succ, List.set_cons_zero, List.set_cons_succ, List.map_cons, List.map_nil, List.length_cons, List.length_nil, List.cons_append, List.nil_append, List.replicate, Nat.reduceAdd, Nat.reduceSub, addD_int, subD_int, negD_int, repD_int, modD_int, fdivD_int, ltA_int, leA_int, gtA_int, geA_int, eqD_int, neD_int, pow_10_18, pow_10_60, neD_w0]
    unfold leastT
    rw [ha, Bool.true_and]
  · have ha := any_find hf
    simp only [Bool.not_not] at ha
    rw [e]
    simp (disch := first | assumption | decide | omega) only [runF, m0, sSeq, sSet, sIf, sRet, sRetN, sExpr, sSkip_ok, sSetA, sSetIx, sFor, sPar, sBind, sAug, eVar, eCon_ok, eOp2, eOp1, eCall, eCallM, eCallT, eTup, eLst, eArg, eIf, tVal, tNotF, tAndF, tOrF, eB, eAndF, eOrF, eNotF, eIxA, eIxO, eCatO, ixA_lst, ixA_tup, ixA_scr, eDNew, eDGet, eDGetO, eDPop, eSortK, eMM, aHoleQ, aHole, aNil_ok, aCons, oNone_ok, oSome, eSlice, eSliceL, iSeqA, iSeq, iRange, iArg, ePeek, tPeek, eOwnM, tYes_ok, bind_ok, bind_exc, bind_stuck, of_some, flatD, SW.gName, List.getD_cons_zero, List.getD_cons_succ, List.set_cons_zero, List.set_cons_succ, List.map_cons, List.map_nil, List.length_cons, List.length_nil, List.cons_append, List.nil_append, List.replicate, Nat.reduceAdd, Nat.reduceSub, addD_int, subD_int, negD_int, repD_int, modD_int, fdivD_int, ltA_int, leA_int, gtA_int, geA_int, eqD_int, neD_int, pow_10_18, pow_10_60]
    unfold leastT
    rw [ha, Bool.false_and]
/-! the falling words -/
def maxN : List Nat → Nat
  | [] => 0
  | k :: r => max (k + 1) (maxN r)
theorem listMax_maxN : ∀ (k : Nat) (l : List Nat), listMax ((k :: l).map fun j : Nat => 1 + ((j : Nat) : Int)) = ((maxN (k :: l) : Nat) : Int)
  | k, [] => by
    show 1 + ((k : Nat) : Int) = ((max (k + 1) 0 : Nat) : Int)
    omega
  | k, j :: l => by
    have ih := listMax_maxN j l
    show max (1 + ((k : Nat) : Int)) (listMax ((j :: l).map fun j : Nat => 1 + ((j : Nat) : Int))) = ((max (k + 1) (maxN (j :: l)) : Nat) : Int)
    rw [ih]
    omega
theorem intsOf_ints {α : Type} (f : α → Int) : ∀ l : List α, intsOf (l.map fun k => D.int (f k)) = some (l.map f)
  | [] => rfl
  | a :: l => by
    show (intsOf (l.map fun k => D.int (f k))).map (f a :: ·) = _
    rw [intsOf_ints f l]
    rfl
theorem maxA_ints {α : Type} (f : α → Int) (l : List α) (h : l ≠ []) : maxA [.lst (l.map fun k => D.int (f k))] = some (.int (listMax (l.map f))) := by
  have e : maxD [.lst (l.map fun k => D.int (f k))] = some (.int (listMax (l.map f))) := by
    show (match intsOf (l.map fun k => D.int (f k)) with
      | some ns => if (!ns.isEmpty) = true then some (D.int (listMax ns)) else none
      | none => none) = _
    rw [intsOf_ints]
    dsimp only
    rw [if_pos (by cases l with | nil => exact (h rfl).elim | cons a l => rfl)]
  unfold maxA
  rw [e]
def lstT (w : List Nat) : List Nat := (List.range w.length).filter fun k => leastT (w.take (k + 1))
def longT (w : List Nat) : Nat := maxN (lstT w)
theorem lstT_ne {w : List Nat} (h : w ≠ []) : lstT w ≠ [] := by
  obtain ⟨x, w, rfl⟩ := List.exists_cons_of_ne_nil h
  have : 0 ∈ lstT (x :: w) := by
    unfold lstT
    rw [List.mem_filter]
    refine ⟨List.mem_range.mpr (by simp), ?_⟩
    show leastT [x] = true
    rfl
  intro z
  rw [z] at this
  cases this
theorem longT_pos {w : List Nat} (h : w ≠ []) : 1 ≤ longT w := by
  unfold longT
  cases e : lstT w with
  | nil => exact (lstT_ne h e).elim
  | cons a l => show 1 ≤ max (a + 1) _; omega
def fallT : Nat → List Nat → List (List Nat)
  | 0, _ => []
  | n + 1, w => if w = [] then [] else w.take (longT w) :: fallT n (w.drop (longT w))
theorem append_ws {acc : List (List Nat)} {x : List Nat} (h : acc.length < 1000) : uAppend (acc.map eW.en) [eW.en x] = some (.non, (acc ++ [x]).map eW.en) := by
  show (if (acc.map eW.en).length < sizeLine then some (D.non, acc.map eW.en ++ [eW.en x]) else none) = _
  rw [List.length_map, if_pos (Nat.lt_trans h (by decide)), List.map_append]
  rfl
abbrev bFall : Rho → Out Fl := (sSeq (sSet 2 (eArg maxA (aCons (eComp [3] (iRange (aCons (eCon (.int 1)) (aCons (eOp2 addD (eArg lenA (aCons (eVar 0) aNil)) (eCon (.int 1))) aNil))) (gName 3) (tVal (eCall m_is_least (aCons (eSlice (eVar 0) oNone (oSome (eVar 3))) aNil))) (eVar 3)) aNil))) (sSeq (sExpr (eOwnM uAppend 1 (aCons (eSlice (eVar 0) oNone (oSome (eVar 2))) aNil))) (sSet 0 (eSlice (eVar 0) (oSome (eVar 2)) oNone))))
theorem fall_step {w : List Nat} {acc : List (List Nat)} {y : Option D} (hn : w ≠ []) (hw : w.length ≤ 5) (ha : acc.length < 1000) :
    bFall [some (eW.en w), some (.lst (acc.map eW.en)), y, none] = .ok (.nx [some (eW.en (w.drop (longT w))), some (.lst ((acc ++ [w.take (longT w)]).map eW.en)), some (.int (longT w)), none]) := by
  have hr : rangeD [.int 1, .int (w.length + 1)] = some ((List.range w.length).map fun k => .int (1 + ((k : Nat) : Int))) := by
    rw [rangeD2 (by omega) (by omega) (by omega) (by omega) (by omega)]
    congr 3
    omega
  have hc := compL_of (vs := [3]) (b := gName 3) (tt := tVal (eCall m_is_least (aCons (eSlice (eVar 0) oNone (oSome (eVar 3))) aNil))) (fe := eVar 3) (f := fun k : Nat => D.int (1 + ((k : Nat) : Int))) (ρ := [some (eW.en w), some (.lst (acc.map eW.en)), y, none]) (c := fun k => leastT (w.take (k + 1))) (h := fun k : Nat => D.int (1 + ((k : Nat) : Int))) (List.range w.length) (by
    intro k hk
    have ek : (1 + ((k : Nat) : Int)).toNat = k + 1 := by omega
    refine ⟨_, rfl, [some (eW.en w), some (.lst (acc.map eW.en)), y, some (.int (1 + ((k : Nat) : Int)))], ?_, fun _ => rfl, fun _ => ⟨_, rfl, rfl⟩⟩
    have hl := is_least_ok (w.take (k + 1)) (by rw [List.length_take]; omega)
    simp (disch := first | assumption | decide | omega) only [runF, m0, sSeq, sSet, sIf, sRet, sRetN, sExpr, sSkip_ok, sSetA, sSetIx, sFor, sPar, sBind, sAug, eVar, eCon_ok, eOp2, eOp1, eCall, eCallM, eCallT, eTup, eLst, eArg, eIf, tVal, tNotF, tAndF, tOrF, eB, eAndF, eOrF, eNotF, eIxA, eIxO, eCatO, ixA_lst, ixA_tup, ixA_scr, eDNew, eDGet, eDGetO, eDPop, eSortK, eMM, aHoleQ, aHole, aNil_ok, aCons, oNone_ok, oSome, eSlice, eSliceL, iSeqA, iSeq, iRange, iArg, ePeek, tPeek, eOwnM, tYes_ok, bind_ok, bind_exc, bind_stuck, of_some, flatD, SW.gName, List.getD_cons_zero, List.getD_cons_succ, List.set_cons_zero, List.set_cons_succ, List.map_cons, List.map_nil, List.length_cons, List.length_nil, List.cons_append, List.nil_append, List.replicate, Nat.reduceAdd, Nat.reduceSub, addD_int, subD_int, negD_int, repD_int, modD_int, fdivD_int, ltA_int, leA_int, gtA_int, geA_int, eqD_int, neD_int, pow_10_18, pow_10_60, wipeR, take_w, ek, hl])
  have hm : maxA [.lst ((lstT w).map fun k : Nat => D.int (1 + ((k : Nat) : Int)))] = some (.int (longT w)) := by
    rw [maxA_ints (fun k : Nat => 1 + ((k : Nat) : Int)) _ (lstT_ne hn)]
    unfold longT
    cases e : lstT w with
    | nil => exact (lstT_ne hn e).elim
    | cons a l => rw [listMax_maxN]
  change compL _ _ _ _ _ _ = .ok ((lstT w).map _, _) at hc
  have e0 : ((longT w : Nat) : Int).toNat = longT w := by omega
  simp (disch := first | assumption | decide | omega) only [bFall, runF, m0, sSeq, sSet, sIf, sRet, sRetN, sExpr, sSkip_ok, sSetA, sSetIx, sFor, sPar, sBind, sAug, eVar, eCon_ok, eOp2, eOp1, eCall, eCallM, eCallT, eTup, eLst, eArg, eIf, tVal, tNotF, tAndF, tOrF, eB, eAndF, eOrF, eNotF, eIxA, eIxO, eCatO, ixA_lst, ixA_tup, ixA_scr, eDNew, eDGet, eDGetO, eDPop, eSortK, eMM, aHoleQ, aHole, aNil_ok, aCons, oNone_ok, oSome, eSlice, eSliceL, iSeqA, iSeq, iRange, iArg, ePeek, tPeek, eOwnM, tYes_ok, bind_ok, bind_exc, bind_stuck, of_some, flatD, SW.gName, List.getD_cons_zero, List.getD_cons_succ, List.set_cons_zero, List.set_cons_succ, List.map_cons, List.map_nil, List.length_cons, List.length_nil, List.cons_append, List.nil_append, List.replicate, Nat.reduceAdd, Nat.reduceSub, addD_int, subD_int, negD_int, repD_int, modD_int, fdivD_int, ltA_int, leA_int, gtA_int, geA_int, eqD_int, neD_int, pow_10_18, pow_10_60, lenD_w, hr, eComp, hc, hm, take_w, drop_w, e0, append_ws]
theorem fall_loop : ∀ (n : Nat) (w : List Nat) (acc : List (List Nat)) (y : Option D), w.length < n → w.length ≤ 5 → acc.length + w.length < 1000 →
    ∃ y', whileL (tVal (eOp2 neD (eVar 0) (eTup aNil))) bFall n [some (eW.en w), some (.lst (acc.map eW.en)), y, none] = .ok (.nx [some (eW.en []), some (.lst ((acc ++ fallT n w).map eW.en)), y', none])
  | 0, _, _, _, h, _, _ => by omega
  | n + 1, w, acc, y, h, hw, ha => by
    by_cases hn : w = []
    · subst hn
      refine ⟨y, ?_⟩
      unfold whileL
      simp (disch := first | assumption | decide | omega) only [runF, m0, sSeq, sSet, sIf, sRet, sRetN, sExpr, sSkip_ok, sSetA, sSetIx, sFor, sPar, sBind, sAug, eVar, eCon_ok, eOp2, eOp1, eCall, eCallM, eCallT, eTup, eLst, eArg, eIf, tVal, tNotF, tAndF, tOrF, eB, eAndF, eOrF, eNotF, eIxA, eIxO, eCatO, ixA_lst, ixA_tup, ixA_scr, eDNew, eDGet, eDGetO, eDPop, eSortK, eMM, aHoleQ, aHole, aNil_ok, aCons, oNone_ok, oSome, eSlice, eSliceL, iSeqA, iSeq, iRange, iArg, ePeek, tPeek, eOwnM, tYes_ok, bind_ok, bind_exc, bind_stuck, of_some, flatD, SW.gName, List.getD_cons_zero, List.getD_cons_succ, List.set_cons_zero, List.set_cons_succ, List.map_cons, List.map_nil, List.length_cons, List.length_nil, List.cons_append, List.nil_append, List.replicate, Nat.reduceAdd, Nat.reduceSub, addD_int, subD_int, negD_int, repD_int, modD_int, fdivD_int, ltA_int, leA_int, gtA_int, geA_int, eqD_int, neD_int, pow_10_18, pow_10_60, neD_w0, fallT, decide_true, Bool.not_true, Bool.false_eq_true, if_false, if_true, List.append_nil]
    · have h1 := longT_pos hn
      have hp : 0 < w.length := List.length_pos_iff.mpr hn
      have e : whileL (tVal (eOp2 neD (eVar 0) (eTup aNil))) bFall (n + 1) [some (eW.en w), some (.lst (acc.map eW.en)), y, none] = whileL (tVal (eOp2 neD (eVar 0) (eTup aNil))) bFall n [some (eW.en (w.drop (longT w))), some (.lst ((acc ++ [w.take (longT w)]).map eW.en)), some (.int (longT w)), none] := by
        conv => lhs; unfold whileL
        simp (disch := first | assumption | decide | omega) only [tVal, eOp2, eVar, eTup, aNil_ok, of_some, bind_ok, neD_w0, List.getD_cons_zero, decide_eq_false hn, Bool.not_false, if_true, fall_step hn hw (show acc.length < 1000 by omega)]
      rw [e]
      obtain ⟨y', e2⟩ := fall_loop n (w.drop (longT w)) (acc ++ [w.take (longT w)]) (some (.int (longT w))) (by rw [List.length_drop]; omega) (by rw [List.length_drop]; omega) (by rw [List.length_drop, List.length_append]; simp; omega)
      refine ⟨y', ?_⟩
      rw [e2]
      conv => rhs; unfold fallT
      rw [if_neg hn, List.append_assoc]
      rfl
theorem falling_ok (w : List Nat) (hw : w.length ≤ 5) : m_falling [eW.en w] = .ok (eWs.en (fallT (w.length + 1) w), .non) := by
  obtain ⟨y', e⟩ := fall_loop (w.length + 1) w [] none (by omega) hw (by simp; omega)
  have ef : fuelLen 0 [some (eW.en w), some (.lst []), none, none] = w.length + 1 := by
    show (w.map eNat.en).length + 1 = _
    rw [List.length_map]
  rw [List.nil_append, List.map_nil] at e
  simp (disch := first | assumption | decide | omega) only [m_falling, b_falling, runF, m0, sSeq, sSet, sIf, sRet, sRetN, sExpr, sSkip_ok, sSetA, sSetIx, sFor, sPar, sBind, sAug, eVar, eCon_ok, eOp2, eOp1, eCall, eCallM, eCallT, eTup, eLst, eArg, eIf, tVal, tNotF, tAndF, tOrF, eB, eAndF, eOrF, eNotF, eIxA, eIxO, eCatO, ixA_lst, ixA_tup, ixA_scr, eDNew, eDGet, eDGetO, eDPop, eSortK, eMM, aHoleQ, aHole, aNil_ok, aCons, oNone_ok, oSome, eSlice, eSliceL, iSeqA, iSeq, iRange, iArg, ePeek, tPeek, eOwnM, tYes_ok, bind_ok, bind_exc, bind_stuck, of_some, flatD, SW.gName, List.getD_cons_zero, List.getD_cons_succ, List.set_cons_zero, List.set_cons_succ, List.map_cons, List.map_nil, List.length_cons, List.length_nil, List.cons_append, List.nil_append, List.replicate, Nat.reduceAdd, Nat.reduceSub, addD_int, subD_int, negD_int, repD_int, modD_int, fdivD_int, ltA_int, leA_int, gtA_int, geA_int, eqD_int, neD_int, pow_10_18, pow_10_60, sWhile, ef]
  change whileL (tVal (eOp2 neD (eVar 0) (eTup aNil))) bFall _ _ = _ at e
  rw [e]
  rfl
/-! the checks -/
theorem is_whole_okN (i : Int) : m_is_whole [.int i] = .ok (.bl true, .non) := rfl
theorem is_word_okN {w : List Nat} {m : Nat} (h : LetW 5 m w) : m_is_word [eW.en w, .int m] = .ok (.bl true, .non) := by
  have key := forL_fold (b := gName 2) (g := (sIf (tOrF (tNotF (tVal (eCall m_is_whole (aCons (eVar 2) aNil)))) (tOrF (tVal (eOp2 ltA (eVar 2) (eCon (.int 0)))) (tVal (eOp2 geA (eVar 2) (eVar 1))))) (sRet (eCon (.bl false))) sSkip)) (f := eNat.en) (σ := Unit) (step := fun s _ => s) (St := fun _ ρ => ∃ y, ρ = [some (eW.en w), some (.int m), y]) w () [some (eW.en w), some (.int m), none] ⟨_, rfl⟩ (by
    rintro x hx _ ρ ⟨y, rfl⟩
    refine ⟨_, [some (eW.en w), some (.int m), some (eNat.en x)], rfl, ?_, _, rfl⟩
    have hm := h.2 x hx
    have e1 : ¬ ((x : Nat) : Int) < 0 := by omega
    have e2 : ¬ ((m : Nat) : Int) ≤ ((x : Nat) : Int) := by omega
    simp (disch := first | assumption | decide | omega) only [runF, m0, sSeq, sSet, sIf, sRet, sRetN, sExpr, sSkip_ok, sSetA, sSetIx, sFor, sPar, sBind, sAug, eVar, eCon_ok, eOp2, eOp1, eCall, eCallM, eCallT, eTup, eLst, eArg, eIf, tVal, tNotF, tAndF, tOrF, eB, eAndF, eOrF, eNotF, eIxA, eIxO, eCatO, ixA_lst, ixA_tup, ixA_scr, eDNew, eDGet, eDGetO, eDPop, eSortK, eMM, aHoleQ, aHole, aNil_ok, aCons, oNone_ok, oSome, eSlice, eSliceL, iSeqA, iSeq, iRange, iArg, ePeek, tPeek, eOwnM, tYes_ok, bind_ok, bind_exc, bind_stuck, of_some, flatD, SW.gName, List.getD_cons_zero, List.getD_cons_succ, List.set_cons_zero, List.set_cons_succ, List.map_cons, List.map_nil, List.length_cons, List.length_nil, List.cons_append, List.nil_append, List.replicate, Nat.reduceAdd, Nat.reduceSub, addD_int, subD_int, negD_int, repD_int, modD_int, fdivD_int, ltA_int, leA_int, gtA_int, geA_int, eqD_int, neD_int, pow_10_18, pow_10_60, eNat, is_whole_okN, decide_eq_false e1, decide_eq_false e2, Bool.not_true, Bool.false_eq_true, if_false, if_true])
  obtain ⟨ρ', e, y, rfl⟩ := key
  have h5 : ¬ ((5 : Int) < ((w.length : Nat) : Int)) := by have := h.1; omega
  simp (disch := first | assumption | decide | omega) only [m_is_word, b_is_word, k_MOST, runF, m0, sSeq, sSet, sIf, sRet, sRetN, sExpr, sSkip_ok, sSetA, sSetIx, sFor, sPar, sBind, sAug, eVar, eCon_ok, eOp2, eOp1, eCall, eCallM, eCallT, eTup, eLst, eArg, eIf, tVal, tNotF, tAndF, tOrF, eB, eAndF, eOrF, eNotF, eIxA, eIxO, eCatO, ixA_lst, ixA_tup, ixA_scr, eDNew, eDGet, eDGetO, eDPop, eSortK, eMM, aHoleQ, aHole, aNil_ok, aCons, oNone_ok, oSome, eSlice, eSliceL, iSeqA, iSeq, iRange, iArg, ePeek, tPeek, eOwnM, tYes_ok, bind_ok, bind_exc, bind_stuck, of_some, flatD, SW.gName, List.getD_cons_zero, List.getD_cons_succ, List.set_cons_zero, List.set_cons_succ, List.map_cons, List.map_nil, List.length_cons, List.length_nil, List.cons_append, List.nil_append, List.replicate, Nat.reduceAdd, Nat.reduceSub, addD_int, subD_int, negD_int, repD_int, modD_int, fdivD_int, ltA_int, leA_int, gtA_int, geA_int, eqD_int, neD_int, pow_10_18, pow_10_60, isi_tup, lenD_w, decide_eq_false h5, Bool.not_true, Bool.false_eq_true, if_false, if_true, itemsOf_w, e]
theorem check_word_ok {w : List Nat} (h : LetW 5 4 w) : m_check_word [eW.en w] = .ok (.non, .non) := by
  have e := is_word_okN (m := 4) h
  change m_is_word [eW.en w, .int 4] = _ at e
  simp (disch := first | assumption | decide | omega) only [m_check_word, b_check_word, k_MOST_LETTERS, runF, m0, sSeq, sSet, sIf, sRet, sRetN, sExpr, sSkip_ok, sSetA, sSetIx, sFor, sPar, sBind, sAug, eVar, eCon_ok, eOp2, eOp1, eCall, eCallM, eCallT, eTup, eLst, eArg, eIf, tVal, tNotF, tAndF, tOrF, eB, eAndF, eOrF, eNotF, eIxA, eIxO, eCatO, ixA_lst, ixA_tup, ixA_scr, eDNew, eDGet, eDGetO, eDPop, eSortK, eMM, aHoleQ, aHole, aNil_ok, aCons, oNone_ok, oSome, eSlice, eSliceL, iSeqA, iSeq, iRange, iArg, ePeek, tPeek, eOwnM, tYes_ok, bind_ok, bind_exc, bind_stuck, of_some, flatD, SW.gName, List.getD_cons_zero, List.getD_cons_succ, List.set_cons_zero, List.set_cons_succ, List.map_cons, List.map_nil, List.length_cons, List.length_nil, List.cons_append, List.nil_append, List.replicate, Nat.reduceAdd, Nat.reduceSub, addD_int, subD_int, negD_int, repD_int, modD_int, fdivD_int, ltA_int, leA_int, gtA_int, geA_int, eqD_int, neD_int, pow_10_18, pow_10_60, e, Bool.not_true, Bool.false_eq_true, if_false]
theorem fallen_ok {w : List Nat} (h : LetW 5 4 w) : m_fallen [eW.en w] = .ok (eWs.en (fallT (w.length + 1) w), .non) := by
  simp (disch := first | assumption | decide | omega) only [m_fallen, b_fallen, runF, m0, sSeq, sSet, sIf, sRet, sRetN, sExpr, sSkip_ok, sSetA, sSetIx, sFor, sPar, sBind, sAug, eVar, eCon_ok, eOp2, eOp1, eCall, eCallM, eCallT, eTup, eLst, eArg, eIf, tVal, tNotF, tAndF, tOrF, eB, eAndF, eOrF, eNotF, eIxA, eIxO, eCatO, ixA_lst, ixA_tup, ixA_scr, eDNew, eDGet, eDGetO, eDPop, eSortK, eMM, aHoleQ, aHole, aNil_ok, aCons, oNone_ok, oSome, eSlice, eSliceL, iSeqA, iSeq, iRange, iArg, ePeek, tPeek, eOwnM, tYes_ok, bind_ok, bind_exc, bind_stuck, of_some, flatD, SW.gName, List.getD_cons_zero, List.getD_cons_succ, List.set_cons_zero, List.set_cons_succ, List.map_cons, List.map_nil, List.length_cons, List.length_nil, List.cons_append, List.nil_append, List.replicate, Nat.reduceAdd, Nat.reduceSub, addD_int, subD_int, negD_int, repD_int, modD_int, fdivD_int, ltA_int, leA_int, gtA_int, geA_int, eqD_int, neD_int, pow_10_18, pow_10_60, check_word_ok h, falling_ok w h.1]
/-! the law's own least turn -/
def leastL (w : List Nat) : Bool := !decide (w = []) && decide (((List.range (w.length - 1)).map fun k => w.drop (k + 1) ++ w.take (k + 1)).filter (fun o => !ltW w o) = [])
theorem addD_wN (a b : List Nat) (h : a.length + b.length ≤ 1000) : addD (eW.en a) (eW.en b) = some (eW.en (a ++ b)) := by
  show (if (a.map eNat.en).length + (b.map eNat.en).length ≤ sizeLine then some (D.tup (a.map eNat.en ++ b.map eNat.en)) else none) = _
  rw [List.length_map, List.length_map, if_pos (Nat.le_trans h (by decide)), ← List.map_append]
  rfl
theorem eqD_ws1 (a : List (List Nat)) : eqD (.lst (a.map eW.en)) (.lst []) = some (.bl (decide (a = []))) := eqD_ws0 a
theorem itemsOf_lst (a : List D) : itemsA (.lst a) = some a := rfl
theorem law_is_least_ok (w : List Nat) (hw : w.length ≤ 5) : m__law_is_least [eW.en w] = .ok (.bl (leastL w), .non) := by
  have hr : rangeD [.int 1, .int w.length] = some ((List.range (w.length - 1)).map fun k => .int (1 + ((k : Nat) : Int))) := by
    rw [rangeD2 (by omega) (by omega) (by omega) (by omega) (by omega)]
    congr 3
    omega
  have hc := compL_of (vs := [2]) (b := gName 2) (tt := tYesF) (fe := (eOp2 addD (eSlice (eVar 0) (oSome (eVar 2)) oNone) (eSlice (eVar 0) oNone (oSome (eVar 2))))) (f := fun k : Nat => D.int (1 + ((k : Nat) : Int))) (ρ := [some (eW.en w), none, none, none]) (c := fun _ => true) (h := fun k : Nat => eW.en (w.drop (k + 1) ++ w.take (k + 1))) (List.range (w.length - 1)) (by
    intro k hk
    have ek : (1 + ((k : Nat) : Int)).toNat = k + 1 := by omega
    have hl : (w.drop (k + 1)).length + (w.take (k + 1)).length ≤ 1000 := by rw [List.length_drop, List.length_take]; omega
    refine ⟨_, rfl, [some (eW.en w), none, some (.int (1 + ((k : Nat) : Int))), none], rfl, (fun z => by cases z), fun _ => ⟨[some (eW.en w), none, some (.int (1 + ((k : Nat) : Int))), none], ?_, rfl⟩⟩
    simp (disch := first | assumption | decide | omega) only [runF, m0, sSeq, sSet, sIf, sRet, sRetN, sExpr, sSkip_ok, sSetA, sSetIx, sFor, sPar, sBind, sAug, eVar, eCon_ok, eOp2, eOp1, eCall, eCallM, eCallT, eTup, eLst, eArg, eIf, tVal, tNotF, tAndF, tOrF, eB, eAndF, eOrF, eNotF, eIxA, eIxO, eCatO, ixA_lst, ixA_tup, ixA_scr, eDNew, eDGet, eDGetO, eDPop, eSortK, eMM, aHoleQ, aHole, aNil_ok, aCons, oNone_ok, oSome, eSlice, eSliceL, iSeqA, iSeq, iRange, iArg, ePeek, tPeek, eOwnM, tYes_ok, bind_ok, bind_exc, bind_stuck, of_some, flatD, SW.gName, List.getD_cons_zero, List.getD_cons_succ, List.set_cons_zero, List.set_cons_succ, List.map_cons, List.map_nil, List.length_cons, List.length_nil, List.cons_append, List.nil_append, List.replicate, Nat.reduceAdd, Nat.reduceSub, addD_int, subD_int, negD_int, repD_int, modD_int, fdivD_int, ltA_int, leA_int, gtA_int, geA_int, eqD_int, neD_int, pow_10_18, pow_10_60, drop_w, take_w, ek, addD_wN _ _ hl])
  rw [List.filter_eq_self.mpr (fun _ _ => rfl)] at hc
  have hc2 := compL_of (vs := [3]) (b := gName 3) (tt := (tVal (eOp2 leA (eVar 3) (eVar 0)))) (fe := eVar 3) (f := eW.en) (ρ := [some (eW.en w), some (.lst ((List.range (w.length - 1)).map fun k : Nat => eW.en (w.drop (k + 1) ++ w.take (k + 1)))), none, none]) (c := fun o => !ltW w o) (h := eW.en) ((List.range (w.length - 1)).map fun k => w.drop (k + 1) ++ w.take (k + 1)) (by
    intro o ho
    refine ⟨_, rfl, [some (eW.en w), some (.lst ((List.range (w.length - 1)).map fun k : Nat => eW.en (w.drop (k + 1) ++ w.take (k + 1)))), none, some (eW.en o)], ?_, fun _ => rfl, fun _ => ⟨_, rfl, rfl⟩⟩
    simp (disch := first | assumption | decide | omega) only [runF, m0, sSeq, sSet, sIf, sRet, sRetN, sExpr, sSkip_ok, sSetA, sSetIx, sFor, sPar, sBind, sAug, eVar, eCon_ok, eOp2, eOp1, eCall, eCallM, eCallT, eTup, eLst, eArg, eIf, tVal, tNotF, tAndF, tOrF, eB, eAndF, eOrF, eNotF, eIxA, eIxO, eCatO, ixA_lst, ixA_tup, ixA_scr, eDNew, eDGet, eDGetO, eDPop, eSortK, eMM, aHoleQ, aHole, aNil_ok, aCons, oNone_ok, oSome, eSlice, eSliceL, iSeqA, iSeq, iRange, iArg, ePeek, tPeek, eOwnM, tYes_ok, bind_ok, bind_exc, bind_stuck, of_some, flatD, SW.gName, List.getD_cons_zero, List.getD_cons_succ, List.set_cons_zero, List.set_cons_succ, List.map_cons, List.map_nil, List.length_cons, List.length_nil, List.cons_append, List.nil_append, List.replicate, Nat.reduceAdd, Nat.reduceSub, addD_int, subD_int, negD_int, repD_int, modD_int, fdivD_int, ltA_int, leA_int, gtA_int, geA_int, eqD_int, neD_int, pow_10_18, pow_10_60, wipeR, leA_w])
  rw [List.map_map] at hc2
  have ecomp : (eW.en ∘ fun k : Nat => w.drop (k + 1) ++ w.take (k + 1)) = fun k : Nat => eW.en (w.drop (k + 1) ++ w.take (k + 1)) := rfl
  rw [ecomp] at hc2
  by_cases hn : w = []
  · have e : leastL w = false := by subst hn; rfl
    rw [e]
    simp (disch := first | assumption | decide | omega) only [m__law_is_least, b__law_is_least, runF, m0, sSeq, sSet, sIf, sRet, sRetN, sExpr, sSkip_ok, sSetA, sSetIx, sFor, sPar, sBind, sAug, eVar, eCon_ok, eOp2, eOp1, eCall, eCallM, eCallT, eTup, eLst, eArg, eIf, tVal, tNotF, tAndF, tOrF, eB, eAndF, eOrF, eNotF, eIxA, eIxO, eCatO, ixA_lst, ixA_tup, ixA_scr, eDNew, eDGet, eDGetO, eDPop, eSortK, eMM, aHoleQ, aHole, aNil_ok, aCons, oNone_ok, oSome, eSlice, eSliceL, iSeqA, iSeq, iRange, iArg, ePeek, tPeek, eOwnM, tYes_ok, bind_ok, bind_exc, bind_stuck, of_some, flatD, SW.gName, List.getD_cons_zero, List.getD_cons_succ, List.set_cons_zero, List.set_cons_succ, List.map_cons, List.map_nil, List.length_cons, List.length_nil, List.cons_append, List.nil_append, List.replicate, Nat.reduceAdd, Nat.reduceSub, addD_int, subD_int, negD_int, repD_int, modD_int, fdivD_int, ltA_int, leA_int, gtA_int, geA_int, eqD_int, neD_int, pow_10_18, pow_10_60, lenD_w, hr, eComp, hc, neD_w0, decide_eq_true hn, Bool.not_true]
  · simp (disch := first | assumption | decide | omega) only [m__law_is_least, b__law_is_least, runF, m0, sSeq, sSet, sIf, sRet, sRetN, sExpr, sSkip_ok, sSetA, sSetIx, sFor, sPar, sBind, sAug, eVar, eCon_ok, eOp2, eOp1, eCall, eCallM, eCallT, eTup, eLst, eArg, eIf, tVal, tNotF, tAndF, tOrF, eB, eAndF, eOrF, eNotF, eIxA, eIxO, eCatO, ixA_lst, ixA_tup, ixA_scr, eDNew, eDGet, eDGetO, eDPop, eSortK, eMM, aHoleQ, aHole, aNil_ok, aCons, oNone_ok, oSome, eSlice, eSliceL, iSeqA, iSeq, iRange, iArg, ePeek, tPeek, eOwnM, tYes_ok, bind_ok, bind_exc, bind_stuck, of_some, flatD, SW.gName, List.getD_cons_zero, List.getD_cons_succ, List.set_cons_zero, List.set_cons_succ, List.map_cons, List.map_nil, List.length_cons, List.length_nil, List.cons_append, List.nil_append, List.replicate, Nat.reduceAdd, Nat.reduceSub, addD_int, subD_int, negD_int, repD_int, modD_int, fdivD_int, ltA_int, leA_int, gtA_int, geA_int, eqD_int, neD_int, pow_10_18, pow_10_60, lenD_w, hr, eComp, hc, neD_w0, decide_eq_false hn, Bool.not_false, itemsOf_lst, hc2, eqD_ws1, leastL, Bool.true_and]

/-! trees of least words -/
def minN : List Nat → Nat
  | [] => 0
  | [k] => k + 1
  | k :: j :: r => min (k + 1) (minN (j :: r))
theorem listMin_minN : ∀ (k : Nat) (l : List Nat), listMin ((k :: l).map fun j : Nat => 1 + ((j : Nat) : Int)) = ((minN (k :: l) : Nat) : Int)
  | k, [] => by
    show 1 + ((k : Nat) : Int) = ((k + 1 : Nat) : Int)
    omega
  | k, j :: l => by
    have ih := listMin_minN j l
    show min (1 + ((k : Nat) : Int)) (listMin ((j :: l).map fun j : Nat => 1 + ((j : Nat) : Int))) = ((min (k + 1) (minN (j :: l)) : Nat) : Int)
    rw [ih]
    omega
theorem minN_mem : ∀ (k : Nat) (l : List Nat), ∃ j ∈ k :: l, minN (k :: l) = j + 1
  | k, [] => ⟨k, List.mem_cons_self, rfl⟩
  | k, j :: l => by
    obtain ⟨i, hi, e⟩ := minN_mem j l
    have em : minN (k :: j :: l) = min (k + 1) (minN (j :: l)) := rfl
    rcases Nat.le_total (k + 1) (minN (j :: l)) with h | h
    · exact ⟨k, List.mem_cons_self, by rw [em, Nat.min_eq_left h]⟩
    · exact ⟨i, List.mem_cons_of_mem _ hi, by rw [em, Nat.min_eq_right h, e]⟩
theorem minA_ints {α : Type} (f : α → Int) (l : List α) (h : l ≠ []) : minA [.lst (l.map fun k => D.int (f k))] = some (.int (listMin (l.map f))) := by
  have e : minD [.lst (l.map fun k => D.int (f k))] = some (.int (listMin (l.map f))) := by
    show (match intsOf (l.map fun k => D.int (f k)) with
      | some ns => if (!ns.isEmpty) = true then some (D.int (listMin ns)) else none
      | none => none) = _
    rw [intsOf_ints]
    dsimp only
    rw [if_pos (by cases l with | nil => exact (h rfl).elim | cons a l => rfl)]
  unfold minA
  rw [e]
def endsT (w : List Nat) : List Nat := (List.range (w.length - 1)).filter fun k => leastT (w.drop (k + 1))
def cutT (w : List Nat) : Nat := minN (endsT w)
def treeT : Nat → List Nat → Tr
  | 0, _ => .leaf 0
  | n + 1, w => if w.length = 1 then .leaf (w.getD 0 0) else .node (treeT n (w.take (cutT w))) (treeT n (w.drop (cutT w)))
theorem drop_last : ∀ (w : List Nat), 2 ≤ w.length → ∃ x, w.drop (w.length - 2 + 1) = [x]
  | [], h => by simp at h
  | [a], h => by simp at h
  | [a, b], _ => ⟨b, rfl⟩
  | a :: b :: c :: w, _ => by
    obtain ⟨x, e⟩ := drop_last (b :: c :: w) (by simp)
    refine ⟨x, ?_⟩
    rw [← e]
    show (b :: c :: w).drop _ = _
    congr 1
theorem endsT_ne {w : List Nat} (h : 2 ≤ w.length) : endsT w ≠ [] := by
  obtain ⟨x, e⟩ := drop_last w h
  have : w.length - 2 ∈ endsT w := by
    unfold endsT
    rw [List.mem_filter]
    refine ⟨List.mem_range.mpr (by omega), ?_⟩
    rw [e]
    rfl
  intro z
  rw [z] at this
  cases this
theorem cutT_in {w : List Nat} (h : 2 ≤ w.length) : 1 ≤ cutT w ∧ cutT w < w.length := by
  unfold cutT
  cases e : endsT w with
  | nil => exact (endsT_ne h e).elim
  | cons a l =>
    obtain ⟨j, hj, e2⟩ := minN_mem a l
    rw [← e] at hj
    have := List.mem_range.mp (List.mem_filter.mp hj).1
    rw [e2]
    omega
theorem tree_letters : ∀ (n : Nat) (w : List Nat), 1 ≤ w.length → w.length ≤ n → (treeT n w).letters = w
  | 0, w, h1, h2 => by omega
  | n + 1, w, h1, h2 => by
    unfold treeT
    by_cases h : w.length = 1
    · rw [if_pos h]
      match w, h with
      | [x], _ => rfl
    · rw [if_neg h]
      obtain ⟨c1, c2⟩ := cutT_in (w := w) (by omega)
      show (treeT n (w.take (cutT w))).letters ++ (treeT n (w.drop (cutT w))).letters = w
      rw [tree_letters n _ (by rw [List.length_take]; omega) (by rw [List.length_take]; omega), tree_letters n _ (by rw [List.length_drop]; omega) (by rw [List.length_drop]; omega), List.take_append_drop]
theorem tree_depth : ∀ (n : Nat) (w : List Nat), 1 ≤ w.length → w.length ≤ n → (treeT n w).depth < w.length
  | 0, w, h1, h2 => by omega
  | n + 1, w, h1, h2 => by
    unfold treeT
    by_cases h : w.length = 1
    · rw [if_pos h]
      exact h1
    · rw [if_neg h]
      obtain ⟨c1, c2⟩ := cutT_in (w := w) (by omega)
      have h1 := tree_depth n (w.take (cutT w)) (by rw [List.length_take]; omega) (by rw [List.length_take]; omega)
      have h2 := tree_depth n (w.drop (cutT w)) (by rw [List.length_drop]; omega) (by rw [List.length_drop]; omega)
      rw [List.length_take] at h1
      rw [List.length_drop] at h2
      simp only [Tr.depth]
      omega
theorem tree_by_ok : ∀ (n : Nat) (w : List Nat), 1 ≤ w.length → w.length ≤ 5 → w.length ≤ n → mr_tree_by n [eW.en w] = .ok ((treeT n w).en, .non)
  | 0, w, h1, h5, h2 => by omega
  | n + 1, w, h1, h5, h2 => by
    by_cases h : w.length = 1
    · have d1 : ((w.length : Nat) : Int) = 1 := by omega
      match w, h with
      | [x], _ =>
        have i0 : ixA (eW.en [x]) (.int 0) = some (.int ((x : Nat) : Int)) := rfl
        have l1 : lenA [eW.en [x]] = some (.int 1) := rfl
        simp (disch := first | assumption | decide | omega) only [mr_tree_by, b_tree_by, runF, m0, sSeq, sSet, sIf, sRet, sRetN, sExpr, sSkip_ok, sSetA, sSetIx, sFor, sPar, sBind, sAug, eVar, eCon_ok, eOp2, eOp1, eCall, eCallM, eCallT, eTup, eLst, eArg, eIf, tVal, tNotF, tAndF, tOrF, eB, eAndF, eOrF, eNotF, eIxA, eIxO, eCatO, ixA_lst, ixA_tup, ixA_scr, eDNew, eDGet, eDGetO, eDPop, eSortK, eMM, aHoleQ, aHole, aNil_ok, aCons, oNone_ok, oSome, eSlice, eSliceL, iSeqA, iSeq, iRange, iArg, ePeek, tPeek, eOwnM, tYes_ok, bind_ok, bind_exc, bind_stuck, of_some, flatD, SW.gName, List.getD_cons_zero, List.getD_cons_succ, List.set_cons_zero, List.set_cons_succ, List.map_cons, List.map_nil, List.length_cons, List.length_nil, List.cons_append, List.nil_append, List.replicate, Nat.reduceAdd, Nat.reduceSub, addD_int, subD_int, negD_int, repD_int, modD_int, fdivD_int, ltA_int, leA_int, gtA_int, geA_int, eqD_int, neD_int, pow_10_18, pow_10_60, l1, decide_true, if_true, i0]
        rfl
    · have d1 : ¬ ((w.length : Nat) : Int) = 1 := by omega
      have hr : rangeD [.int 1, .int w.length] = some ((List.range (w.length - 1)).map fun k => .int (1 + ((k : Nat) : Int))) := by
        rw [rangeD2 (by omega) (by omega) (by omega) (by omega) (by omega)]
        congr 3
        omega
      have hc := compL_of (vs := [2]) (b := gName 2) (tt := (tVal (eCall m_is_least (aCons (eSlice (eVar 0) (oSome (eVar 2)) oNone) aNil)))) (fe := eVar 2) (f := fun k : Nat => D.int (1 + ((k : Nat) : Int))) (ρ := [some (eW.en w), none, none]) (c := fun k => leastT (w.drop (k + 1))) (h := fun k : Nat => D.int (1 + ((k : Nat) : Int))) (List.range (w.length - 1)) (by
        intro k hk
        have ek : (1 + ((k : Nat) : Int)).toNat = k + 1 := by omega
        refine ⟨_, rfl, [some (eW.en w), none, some (.int (1 + ((k : Nat) : Int)))], ?_, fun _ => rfl, fun _ => ⟨_, rfl, rfl⟩⟩
        have hl := is_least_ok (w.drop (k + 1)) (by rw [List.length_drop]; omega)
        simp (disch := first | assumption | decide | omega) only [runF, m0, sSeq, sSet, sIf, sRet, sRetN, sExpr, sSkip_ok, sSetA, sSetIx, sFor, sPar, sBind, sAug, eVar, eCon_ok, eOp2, eOp1, eCall, eCallM, eCallT, eTup, eLst, eArg, eIf, tVal, tNotF, tAndF, tOrF, eB, eAndF, eOrF, eNotF, eIxA, eIxO, eCatO, ixA_lst, ixA_tup, ixA_scr, eDNew, eDGet, eDGetO, eDPop, eSortK, eMM, aHoleQ, aHole, aNil_ok, aCons, oNone_ok, oSome, eSlice, eSliceL, iSeqA, iSeq, iRange, iArg, ePeek, tPeek, eOwnM, tYes_ok, bind_ok, bind_exc, bind_stuck, of_some, flatD, SW.gName, List.getD_cons_zero, List.getD_cons_succ, List.set_cons_zero, List.set_cons_succ, List.map_cons, List.map_nil, List.length_cons, List.length_nil, List.cons_append, List.nil_append, List.replicate, Nat.reduceAdd, Nat.reduceSub, addD_int, subD_int, negD_int, repD_int, modD_int, fdivD_int, ltA_int, leA_int, gtA_int, geA_int, eqD_int, neD_int, pow_10_18, pow_10_60, wipeR, drop_w, ek, hl])
      have hm : minA [.lst ((endsT w).map fun k : Nat => D.int (1 + ((k : Nat) : Int)))] = some (.int (cutT w)) := by
        rw [minA_ints (fun k : Nat => 1 + ((k : Nat) : Int)) _ (endsT_ne (by omega))]
        unfold cutT
        cases e : endsT w with
        | nil => exact (endsT_ne (by omega) e).elim
        | cons a l => rw [listMin_minN]
      change compL _ _ _ _ _ _ = .ok ((endsT w).map _, _) at hc
      obtain ⟨c1, c2⟩ := cutT_in (w := w) (by omega)
      have e0 : ((cutT w : Nat) : Int).toNat = cutT w := by omega
      have t1 := tree_by_ok n (w.take (cutT w)) (by rw [List.length_take]; omega) (by rw [List.length_take]; omega) (by rw [List.length_take]; omega)
      have t2 := tree_by_ok n (w.drop (cutT w)) (by rw [List.length_drop]; omega) (by rw [List.length_drop]; omega) (by rw [List.length_drop]; omega)
      simp (disch := first | assumption | decide | omega) only [mr_tree_by, b_tree_by, runF, m0, sSeq, sSet, sIf, sRet, sRetN, sExpr, sSkip_ok, sSetA, sSetIx, sFor, sPar, sBind, sAug, eVar, eCon_ok, eOp2, eOp1, eCall, eCallM, eCallT, eTup, eLst, eArg, eIf, tVal, tNotF, tAndF, tOrF, eB, eAndF, eOrF, eNotF, eIxA, eIxO, eCatO, ixA_lst, ixA_tup, ixA_scr, eDNew, eDGet, eDGetO, eDPop, eSortK, eMM, aHoleQ, aHole, aNil_ok, aCons, oNone_ok, oSome, eSlice, eSliceL, iSeqA, iSeq, iRange, iArg, ePeek, tPeek, eOwnM, tYes_ok, bind_ok, bind_exc, bind_stuck, of_some, flatD, SW.gName, List.getD_cons_zero, List.getD_cons_succ, List.set_cons_zero, List.set_cons_succ, List.map_cons, List.map_nil, List.length_cons, List.length_nil, List.cons_append, List.nil_append, List.replicate, Nat.reduceAdd, Nat.reduceSub, addD_int, subD_int, negD_int, repD_int, modD_int, fdivD_int, ltA_int, leA_int, gtA_int, geA_int, eqD_int, neD_int, pow_10_18, pow_10_60, lenD_w, decide_eq_false d1, Bool.false_eq_true, if_false, hr, eComp, hc, hm, take_w, drop_w, e0, t1, t2, treeT, if_neg h, Tr.en]
theorem least_tree_ok {w : List Nat} (h : LetW 5 4 w) (hl : leastT w = true) : m_least_tree [eW.en w] = .ok ((treeT 8 w).en, .non) := by
  have h1 : 1 ≤ w.length := by
    cases w with
    | nil => cases hl
    | cons a l => simp
  have ht := tree_by_ok 8 w h1 h.1 (by have := h.1; omega)
  change m_tree_by _ = _ at ht
  have hi := is_least_ok w h.1
  rw [hl] at hi
  simp (disch := first | assumption | decide | omega) only [m_least_tree, b_least_tree, runF, m0, sSeq, sSet, sIf, sRet, sRetN, sExpr, sSkip_ok, sSetA, sSetIx, sFor, sPar, sBind, sAug, eVar, eCon_ok, eOp2, eOp1, eCall, eCallM, eCallT, eTup, eLst, eArg, eIf, tVal, tNotF, tAndF, tOrF, eB, eAndF, eOrF, eNotF, eIxA, eIxO, eCatO, ixA_lst, ixA_tup, ixA_scr, eDNew, eDGet, eDGetO, eDPop, eSortK, eMM, aHoleQ, aHole, aNil_ok, aCons, oNone_ok, oSome, eSlice, eSliceL, iSeqA, iSeq, iRange, iArg, ePeek, tPeek, eOwnM, tYes_ok, bind_ok, bind_exc, bind_stuck, of_some, flatD, SW.gName, List.getD_cons_zero, List.getD_cons_succ, List.set_cons_zero, List.set_cons_succ, List.map_cons, List.map_nil, List.length_cons, List.length_nil, List.cons_append, List.nil_append, List.replicate, Nat.reduceAdd, Nat.reduceSub, addD_int, subD_int, negD_int, repD_int, modD_int, fdivD_int, ltA_int, leA_int, gtA_int, geA_int, eqD_int, neD_int, pow_10_18, pow_10_60, check_word_ok h, hi, Bool.not_true, Bool.false_eq_true, if_false, ht]

/-! trees drawn; what the law says of them -/
/-- a dict of words copied -/
def natW (w : Wd) : List Nat := w.map Int.toNat
theorem letters_num : ∀ {w : Wd}, (∀ x ∈ w, 0 ≤ x ∧ x < 4) → lettersN (w.map NestedKey.num) = some (natW w)
  | [], _ => rfl
  | x :: w, h => by
    have hx := h x (by simp)
    show (if 0 ≤ x ∧ x < 1000 then (lettersN (w.map NestedKey.num)).map (x.toNat :: ·) else none) = _
    rw [if_pos ⟨hx.1, by omega⟩, letters_num fun y hy => h y (List.mem_cons_of_mem _ hy)]
    rfl
theorem natW_inj {v w : Wd} (hv : ∀ x ∈ v, 0 ≤ x ∧ x < 4) (hw : ∀ x ∈ w, 0 ≤ x ∧ x < 4) (e : natW v = natW w) : v = w := by
  have key : ∀ {v : Wd}, (∀ x ∈ v, 0 ≤ x ∧ x < 4) → (natW v).map (fun n : Nat => ((n : Nat) : Int)) = v := fun {v} h => by
    unfold natW
    rw [List.map_map]
    conv => rhs; rw [← List.map_id v]
    exact List.map_congr_left fun x hx => Int.toNat_of_nonneg (h x hx).1
  rw [← key hv, ← key hw, e]
theorem nodup_natW : ∀ {l : List Wd}, l.Nodup → (∀ w ∈ l, ∀ x ∈ w, 0 ≤ x ∧ x < 4) → (l.map natW).Nodup
  | [], _, _ => List.nodup_nil
  | w :: l, h, hx => by
    obtain ⟨h1, h2⟩ := List.nodup_cons.mp h
    rw [List.map_cons]
    refine List.nodup_cons.mpr ⟨fun z => ?_, nodup_natW h2 fun v hv => hx v (List.mem_cons_of_mem _ hv)⟩
    obtain ⟨v, hv, e⟩ := List.mem_map.mp z
    have := natW_inj (hx v (List.mem_cons_of_mem _ hv)) (hx w (by simp)) e
    exact h1 (this ▸ hv)
theorem copy_dS {l : SumT} (g : Good l) (hl : ∀ p ∈ l, p.1.length ≤ 5 ∧ ∀ x ∈ p.1, 0 ≤ x ∧ x < 4) : copyD (dS l) = some (dS l) := by
  have hx : ∀ w ∈ l.map (·.1), ∀ x ∈ w, 0 ≤ x ∧ x < 4 := fun w hw => by
    obtain ⟨p, hp, rfl⟩ := List.mem_map.mp hw
    exact (hl p hp).2
  have ap := apart_words (ks := (l.map (·.1)).map wk) (ws := (l.map (·.1)).map natW) (by
    generalize l.map (·.1) = L at hx ⊢
    rw [List.map_map, List.map_map]
    refine List.map_congr_left fun w hw => ?_
    show lettersN (w.map NestedKey.num) = some (natW w)
    exact letters_num (hx w hw)) (fun u hu => by
    obtain ⟨w, hw, rfl⟩ := List.mem_map.mp hu
    obtain ⟨p, hp, rfl⟩ := List.mem_map.mp hw
    refine allW_mem (by unfold natW; rw [List.length_map]; exact (hl p hp).1) fun x hx' => ?_
    obtain ⟨y, hy, rfl⟩ := List.mem_map.mp hx'
    have := (hl p hp).2 y hy
    omega) (nodup_natW g.nd hx)
  have ek : (dE eRat.en l).map (·.1) = (l.map (·.1)).map wk := by
    show (l.map _).map _ = _
    rw [List.map_map, List.map_map]
    rfl
  show (if (apartN ((dE eRat.en l).map (·.1))).isSome then some (D.dct (dE eRat.en l)) else none) = _
  rw [ek, ap]
  rfl
/-- less, by the law, of dicts -/
theorem dic_acc {c j n N M : Nat} {A : SumT} (h : DicB c j n N M A) : AccL N M c j 1 A := ⟨h.gd, fun w => by
  rw [Nat.one_mul]
  by_cases hw : w ∈ A.map (·.1)
  · obtain ⟨p, hp, rfl⟩ := List.mem_map.mp hw
    rw [coef_at h.gd hp]
    exact h.bd p hp
  · rw [coef_not hw]
    exact bd_zero _ _, fun p hp => ⟨h.ln p hp, h.lt p hp⟩⟩
theorem ll_in {N M a c j : Nat} {y0 : Option D} {B0 : SumT} (g0 : Good B0) (n0 : 0 < N) (hN : N < 2 ^ a) (hM : M < 2 ^ a) (j5 : j ≤ 5) (c6 : c ≤ 6) (a6 : a ≤ 5000000) : ∀ (B : SumT) (s : SumT) (k : Nat) (y3 : Option D), AccL N M c j k s → k + B.length ≤ 1000000000 → (∀ t ∈ B, t ∈ B0 ∧ t.1.length ≤ j ∧ (∀ x ∈ t.1, 0 ≤ x ∧ x < (c : Int)) ∧ Bd N M t.2) →
    ∃ z3, forL (gName 3) ((sExpr (eCallM m__law_put 0 2 (aHoleQ 2 (aCons (eVar 3) (aCons (eCall m__law_not (aCons (eOp2 ixA (eVar 1) (eVar 3)) aNil)) aNil)))))) ((B.map (·.1)).map eWord.en) [y0, some (dS B0), some (dS s), y3] = .ok (.nx [y0, some (dS B0), some (dS (subT' s B)), z3])
  | [], s, k, y3, h, _, _ => ⟨y3, rfl⟩
  | r :: B, s, k, y3, h, hk, hr => by
    obtain ⟨r0, r1, r2, r3⟩ := hr r (by simp)
    rw [List.length_cons] at hk
    have p1 : m__law_put [dS s, eWord.en r.1, eRat.en (-r.2)] = .ok (.non, dS (addT s r.1 (-r.2))) := law_put_g (h.sz n0 hN hM (by omega) r.1) (bd_sz2 r3.neg n0 hN hM) (by omega) (Nat.le_trans (h.len j5 c6) (by decide))
    have nn := law_not_ok r.2
    have ix : ixA (dS B0) (eWord.en r.1) = some (eRat.en r.2) := ixA_E (getT_of_mem g0.nd r0)
    obtain ⟨z3, e⟩ := ll_in (y0 := y0) g0 n0 hN hM j5 c6 a6 B (addT s r.1 (-r.2)) (k + 1) (some (eWord.en r.1)) (h.add n0 r3.neg r1 r2) (by omega) (fun x hx => hr x (List.mem_cons_of_mem _ hx))
    refine ⟨z3, ?_⟩
    show _ = Out.ok (Fl.nx [y0, some (dS B0), some (dS (subT' (addT s r.1 (-r.2)) B)), z3])
    rw [← e, List.map_cons, List.map_cons]
    conv => lhs; unfold forL
    generalize dS (addT s r.1 (-r.2)) = S2 at *
    generalize dS s = S1 at *
    generalize dS B0 = S0 at *
    generalize eWord.en r.1 = W1 at *
    generalize eRat.en r.2 = Q1 at *
    generalize eRat.en (-r.2) = Q2 at *
    simp (disch := first | assumption | decide | omega) only [runF, m0, sSeq, sSet, sIf, sRet, sRetN, sExpr, sSkip_ok, sSetA, sSetIx, sFor, sPar, sBind, sAug, eVar, eCon_ok, eOp2, eOp1, eCall, eCallM, eCallT, eTup, eLst, eArg, eIf, tVal, tNotF, tAndF, tOrF, eB, eAndF, eOrF, eNotF, eIxA, eIxO, eCatO, ixA_lst, ixA_tup, ixA_scr, eDNew, eDGet, eDGetO, eDPop, eSortK, eMM, aHoleQ, aHole, aNil_ok, aCons, oNone_ok, oSome, eSlice, eSliceL, iSeqA, iSeq, iRange, iArg, ePeek, tPeek, eOwnM, tYes_ok, bind_ok, bind_exc, bind_stuck, of_some, flatD, SW.gName, List.getD_cons_zero, List.getD_cons_succ, List.set_cons_zero, List.set_cons_succ, List.map_cons, List.map_nil, List.length_cons, List.length_nil, List.cons_append, List.nil_append, List.replicate, Nat.reduceAdd, Nat.reduceSub, addD_int, subD_int, negD_int, repD_int, modD_int, fdivD_int, ltA_int, leA_int, gtA_int, geA_int, eqD_int, neD_int, pow_10_18, pow_10_60, ix, nn, p1]
theorem law_less_ok {c j n n2 N M M2 a : Nat} {A B : SumT} (hA : DicB c j n N M A) (hB : DicB c j n2 N M2 B) (n0 : 0 < N) (hN : N < 2 ^ a) (hM : max M M2 < 2 ^ a) (a6 : a ≤ 5000000) (j5 : j ≤ 5) (c4 : c ≤ 4) (h2 : n2 ≤ 100000) :
    m__law_less [dS A, dS B] = .ok (dS (subT' A B), .non) := by
  have ac : AccL N (max M M2) c j 1 A := by
    have h := dic_acc hA
    exact ⟨h.good, fun w => (h.bd w).mono (Nat.mul_le_mul_left _ (Nat.le_max_left _ _)), h.wd⟩
  obtain ⟨z3, e⟩ := ll_in (y0 := some (dS A)) (B0 := B) hB.gd n0 hN hM j5 (by omega) a6 B A 1 none ac (by have := hB.sz; omega) (fun t ht => ⟨ht, hB.ln t ht, hB.lt t ht, (hB.bd t ht).mono (Nat.le_max_right _ _)⟩)
  have cp := copy_dS hA.gd fun p hp => ⟨Nat.le_trans (hA.ln p hp) j5, fun x hx => by have := hA.lt p hp x hx; omega⟩
  have it := items_E B
  have va : eVar 0 [some (dS A), some (dS B), none, none] = .ok (dS A, [some (dS A), some (dS B), none, none]) := rfl
  have da : eDictA (eVar 0) [some (dS A), some (dS B), none, none] = .ok (dS A, [some (dS A), some (dS B), none, none]) := by
    show eDictD (eVar 0) [some (dS A), some (dS B), none, none] = _
    unfold eDictD
    rw [va, bind_ok]
    dsimp only
    rw [cp]
    rfl
  generalize (B.map (·.1)).map eWord.en = KB at *
  generalize dS (subT' A B) = S2 at *
  generalize dS A = S0 at *
  generalize dS B = S1 at *
  simp (disch := first | assumption | decide | omega) only [m__law_less, b__law_less, runF, m0, sSeq, sSet, sIf, sRet, sRetN, sExpr, sSkip_ok, sSetA, sSetIx, sFor, sPar, sBind, sAug, eVar, eCon_ok, eOp2, eOp1, eCall, eCallM, eCallT, eTup, eLst, eArg, eIf, tVal, tNotF, tAndF, tOrF, eB, eAndF, eOrF, eNotF, eIxA, eIxO, eCatO, ixA_lst, ixA_tup, ixA_scr, eDNew, eDGet, eDGetO, eDPop, eSortK, eMM, aHoleQ, aHole, aNil_ok, aCons, oNone_ok, oSome, eSlice, eSliceL, iSeqA, iSeq, iRange, iArg, ePeek, tPeek, eOwnM, tYes_ok, bind_ok, bind_exc, bind_stuck, of_some, flatD, SW.gName, List.getD_cons_zero, List.getD_cons_succ, List.set_cons_zero, List.set_cons_succ, List.map_cons, List.map_nil, List.length_cons, List.length_nil, List.cons_append, List.nil_append, List.replicate, Nat.reduceAdd, Nat.reduceSub, addD_int, subD_int, negD_int, repD_int, modD_int, fdivD_int, ltA_int, leA_int, gtA_int, geA_int, eqD_int, neD_int, pow_10_18, pow_10_60, da, it, e]
/-! what the law says of a tree -/
def sayD : Tr → SumT
  | .leaf x => [([((x : Nat) : Int)], 1)]
  | .node l r => subT' (joinT (sayD l) (sayD r)) (joinT (sayD r) (sayD l))
theorem subT_mem : ∀ {B A : SumT} {p : Wd × Rat}, p ∈ subT' A B → p ∈ A ∨ (∃ q ∈ B, p.1 = q.1) ∨ ∃ q ∈ A, p.1 = q.1
  | [], A, p, h => .inl h
  | r :: B, A, p, h => by
    rcases subT_mem (B := B) (A := addT A r.1 (-r.2)) h with h | ⟨q, hq, e⟩ | ⟨q, hq, e⟩
    · rcases mem_add h with e | h
      · exact .inr (.inl ⟨r, by simp, e⟩)
      · exact .inl h
    · exact .inr (.inl ⟨q, List.mem_cons_of_mem _ hq, e⟩)
    · rcases mem_add hq with e2 | hq
      · exact .inr (.inl ⟨r, by simp, by rw [e, e2]⟩)
      · exact .inr (.inr ⟨q, hq, e⟩)
theorem subT_len : ∀ (B A : SumT), (subT' A B).length ≤ A.length + B.length
  | [], A => Nat.le_refl _
  | r :: B, A => by
    have := subT_len B (addT A r.1 (-r.2))
    have := add_len A r.1 (-r.2)
    show (subT' (addT A r.1 (-r.2)) B).length ≤ A.length + (B.length + 1)
    omega
theorem DicB.sub {c k n1 n2 N M1 M2 : Nat} {A B : SumT} (hN : N ≠ 0) (hA : DicB c k n1 N M1 A) (hB : DicB c k n2 N M2 B) : DicB c k (n1 + n2) N (M1 + M2) (subT' A B) := by
  have gs := fun f => lin_subT f B A hA.gd
  have g := (gs fun _ => 0).1
  refine ⟨g, fun p hp => ?_, fun p hp => ?_, fun p hp => ?_, Nat.le_trans (subT_len B A) (Nat.add_le_add hA.sz hB.sz)⟩
  · rcases subT_mem hp with h | ⟨q, hq, e⟩ | ⟨q, hq, e⟩
    · exact hA.lt p h
    · rw [e]; exact hB.lt q hq
    · rw [e]; exact hA.lt q hq
  · rcases subT_mem hp with h | ⟨q, hq, e⟩ | ⟨q, hq, e⟩
    · exact hA.ln p h
    · rw [e]; exact hB.ln q hq
    · rw [e]; exact hA.ln q hq
  · have e : p.2 = coef A p.1 + -coef B p.1 := by
      rw [← coef_at g hp, ← lin_ind g.nd, (gs (ind p.1)).2, lin_ind hA.gd.nd, lin_ind hB.gd.nd]
      grind
    rw [e]
    have b1 := (dic_acc hA).bd p.1
    have b2 := (dic_acc hB).bd p.1
    rw [Nat.one_mul] at b1 b2
    exact Bd.add hN b1 b2.neg
theorem say_b : ∀ t : Tr, (lets t).length ≤ 5 → (∀ x ∈ lets t, x < 4) → DicB 4 (lets t).length (nB (lets t).length) 1 (mB (lets t).length) (sayD t)
  | .leaf x, _, hx => (said_b (.leaf x) (by show 1 ≤ 5; decide) hx).b.dic
  | .node l r, h5, hx => by
    have el : (lets (.node l r)).length = (lets l).length + (lets r).length := List.length_append
    rw [el] at h5 ⊢
    have p1 := lets_pos l
    have p2 := lets_pos r
    have hl := say_b l (by omega) fun x h => hx x (List.mem_append_left _ h)
    have hr := say_b r (by omega) fun x h => hx x (List.mem_append_right _ h)
    obtain ⟨k1, k2⟩ := bkey p1 p2 (by omega)
    have j1 := DicB.join (by decide) (by decide) hl hr
    have j2 := DicB.join (by decide) (by decide) hr hl
    rw [Nat.add_comm (lets r).length, Nat.mul_comm (nB (lets r).length), Nat.mul_comm (mB (lets r).length)] at j2
    have h := DicB.sub (by decide) j1 j2
    have hn : nB (lets l).length * nB (lets r).length + nB (lets l).length * nB (lets r).length ≤ nB ((lets l).length + (lets r).length) := by omega
    have hm : nB (lets l).length * nB (lets r).length * (mB (lets l).length * mB (lets r).length) + nB (lets l).length * nB (lets r).length * (mB (lets l).length * mB (lets r).length) ≤ mB ((lets l).length + (lets r).length) := by
      have : 2 * (nB (lets l).length * nB (lets r).length) * (mB (lets l).length * mB (lets r).length) = nB (lets l).length * nB (lets r).length * (mB (lets l).length * mB (lets r).length) + nB (lets l).length * nB (lets r).length * (mB (lets l).length * mB (lets r).length) := by
        rw [Nat.mul_assoc 2, Nat.two_mul]
      omega
    exact ⟨h.gd, h.lt, h.ln, fun p hp => (h.bd p hp).mono hm, Nat.le_trans h.sz hn⟩
theorem law_said_ok : ∀ (n : Nat) (t : Tr), t.depth < n → (lets t).length ≤ 5 → (∀ x ∈ lets t, x < 4) → mr__law_said n [t.en] = .ok (dS (sayD t), .non)
  | 0, t, h, _, _ => by omega
  | n + 1, .leaf x, _, _, _ => by
    have i0 : isiD [.int ((x : Nat) : Int), .ty .tuple] = some (.bl false) := rfl
    have dd : dispD [.tup [.int ((x : Nat) : Int)], .tup [.int 1, .int 1]] = some [(wk [((x : Nat) : Int)], .tup [.int 1, .int 1])] := by
      have kw : keyT (.tup [.int ((x : Nat) : Int)]) = some (wk [((x : Nat) : Int)]) := keyT_word [((x : Nat) : Int)]
      unfold dispD
      rw [kw]
      rfl
    have pa : putAll [(wk [((x : Nat) : Int)], D.tup [.int 1, .int 1])] [] = [(wk [((x : Nat) : Int)], .tup [.int 1, .int 1])] := rfl
    have ed : dS (sayD (.leaf x)) = .dct [(wk [((x : Nat) : Int)], .tup [.int 1, .int 1])] := rfl
    rw [ed]
    generalize wk [((x : Nat) : Int)] = WK at *
    simp (disch := first | assumption | decide | omega) only [mr__law_said, b__law_said, runF, m0, sSeq, sSet, sIf, sRet, sRetN, sExpr, sSkip_ok, sSetA, sSetIx, sFor, sPar, sBind, sAug, eVar, eCon_ok, eOp2, eOp1, eCall, eCallM, eCallT, eTup, eLst, eArg, eIf, tVal, tNotF, tAndF, tOrF, eB, eAndF, eOrF, eNotF, eIxA, eIxO, eCatO, ixA_lst, ixA_tup, ixA_scr, eDNew, eDGet, eDGetO, eDPop, eSortK, eMM, aHoleQ, aHole, aNil_ok, aCons, oNone_ok, oSome, eSlice, eSliceL, iSeqA, iSeq, iRange, iArg, ePeek, tPeek, eOwnM, tYes_ok, bind_ok, bind_exc, bind_stuck, of_some, flatD, SW.gName, List.getD_cons_zero, List.getD_cons_succ, List.set_cons_zero, List.set_cons_succ, List.map_cons, List.map_nil, List.length_cons, List.length_nil, List.cons_append, List.nil_append, List.replicate, Nat.reduceAdd, Nat.reduceSub, addD_int, subD_int, negD_int, repD_int, modD_int, fdivD_int, ltA_int, leA_int, gtA_int, geA_int, eqD_int, neD_int, pow_10_18, pow_10_60, Tr.en, i0, Bool.not_false, if_true, eDisp, dd, pa]
  | n + 1, .node l r, h, h5, hx => by
    have i0 : isiD [.tup [l.en, r.en], .ty .tuple] = some (.bl true) := rfl
    have x0 : ixA (.tup [l.en, r.en]) (.int 0) = some l.en := rfl
    have x1 : ixA (.tup [l.en, r.en]) (.int 1) = some r.en := rfl
    have el : (lets (.node l r)).length = (lets l).length + (lets r).length := List.length_append
    rw [el] at h5
    simp only [Tr.depth] at h
    have p1 := lets_pos l
    have p2 := lets_pos r
    have hxl : ∀ x ∈ lets l, x < 4 := fun x h => hx x (List.mem_append_left _ h)
    have hxr : ∀ x ∈ lets r, x < 4 := fun x h => hx x (List.mem_append_right _ h)
    have t1 := law_said_ok n l (by omega) (by omega) hxl
    have t2 := law_said_ok n r (by omega) (by omega) hxr
    have hl := say_b l (by omega) hxl
    have hr := say_b r (by omega) hxr
    obtain ⟨c1, c2, c3⟩ := btop p1 p2 (by omega)
    obtain ⟨c1', c2', c4⟩ := btop p2 p1 (by omega)
    obtain ⟨k1, k2⟩ := bkey p1 p2 (by omega)
    have S : Small (1 * 1) (mB (lets l).length * mB (lets r).length) := small_of (by decide) (by decide) (by omega)
    have S' : Small (1 * 1) (mB (lets r).length * mB (lets l).length) := small_of (by decide) (by decide) (by omega)
    have Sl : Small 1 (mB (lets l).length) := small_of (by decide) (by decide) (by omega)
    have Sr : Small 1 (mB (lets r).length) := small_of (by decide) (by decide) (by omega)
    have j1 := law_joined_ok hl hr Sl Sr S (by omega) (by omega)
    have j2 := law_joined_ok hr hl Sr Sl S' (by omega) (by omega)
    have d1 := DicB.join (by decide) (by decide) hl hr
    have d2 := DicB.join (by decide) (by decide) hr hl
    rw [Nat.add_comm (lets r).length] at d2
    have hmx : mB ((lets l).length + (lets r).length) < 2 ^ 300 := by
      have : ∀ m : Nat, m ≤ 5 → mB m < 2 ^ 300 := by decide +kernel
      exact this _ h5
    have e1 : nB (lets l).length * nB (lets r).length * (mB (lets l).length * mB (lets r).length) ≤ mB ((lets l).length + (lets r).length) := by
      refine Nat.le_trans ?_ k2
      exact Nat.mul_le_mul_right _ (by omega)
    have e2 : nB (lets r).length * nB (lets l).length * (mB (lets r).length * mB (lets l).length) ≤ mB ((lets l).length + (lets r).length) := by
      rw [Nat.mul_comm (nB (lets r).length), Nat.mul_comm (mB (lets r).length)]
      exact e1
    have ls := law_less_ok (a := 300) d1 d2 (by decide) (by decide) (by omega) (by decide) h5 (by decide) (by omega)
    have es : sayD (.node l r) = subT' (joinT (sayD l) (sayD r)) (joinT (sayD r) (sayD l)) := rfl
    rw [es]
    generalize dS (subT' (joinT (sayD l) (sayD r)) (joinT (sayD r) (sayD l))) = S5 at *
    generalize dS (joinT (sayD l) (sayD r)) = S4 at *
    generalize dS (joinT (sayD r) (sayD l)) = S3 at *
    generalize dS (sayD l) = S1 at *
    generalize dS (sayD r) = S2 at *
    simp (disch := first | assumption | decide | omega) only [mr__law_said, b__law_said, runF, m0, sSeq, sSet, sIf, sRet, sRetN, sExpr, sSkip_ok, sSetA, sSetIx, sFor, sPar, sBind, sAug, eVar, eCon_ok, eOp2, eOp1, eCall, eCallM, eCallT, eTup, eLst, eArg, eIf, tVal, tNotF, tAndF, tOrF, eB, eAndF, eOrF, eNotF, eIxA, eIxO, eCatO, ixA_lst, ixA_tup, ixA_scr, eDNew, eDGet, eDGetO, eDPop, eSortK, eMM, aHoleQ, aHole, aNil_ok, aCons, oNone_ok, oSome, eSlice, eSliceL, iSeqA, iSeq, iRange, iArg, ePeek, tPeek, eOwnM, tYes_ok, bind_ok, bind_exc, bind_stuck, of_some, flatD, SW.gName, List.getD_cons_zero, List.getD_cons_succ, List.set_cons_zero, List.set_cons_succ, List.map_cons, List.map_nil, List.length_cons, List.length_nil, List.cons_append, List.nil_append, List.replicate, Nat.reduceAdd, Nat.reduceSub, addD_int, subD_int, negD_int, repD_int, modD_int, fdivD_int, ltA_int, leA_int, gtA_int, geA_int, eqD_int, neD_int, pow_10_18, pow_10_60, Tr.en, i0, x0, x1, Bool.not_true, Bool.false_eq_true, if_false, t1, t2, j1, j2, ls]
/-! the same sum -/
def brk (A B : SumT) (f : Wd → Rat) : Rat := linS (fun u => linS (fun v => f (u ++ v)) B) A
theorem brk_congr {A A' B B' : SumT} (hA : ∀ f, linS f A = linS f A') (hB : ∀ f, linS f B = linS f B') (f : Wd → Rat) : brk A B f = brk A' B' f := by
  unfold brk
  rw [hA]
  exact lin_congr fun p _ => hB _
theorem lin_negS (f : Wd → Rat) : ∀ A : SumT, linS f (negS A) = -linS f A
  | [] => by show (0 : Rat) = -0; grind
  | p :: A => by
    show -p.2 * f p.1 + linS f (negS A) = -(p.2 * f p.1 + linS f A)
    rw [lin_negS f A]
    grind
theorem lin_said (l r : Tr) (f : Wd → Rat) : linS f (saidT (.node l r)) = brk (saidT l) (saidT r) f - brk (saidT r) (saidT l) f := by
  show linS f (toldT (addAll (joinL (saidT r) (negS (saidT l))) (joinT (saidT l) (saidT r)))) = _
  rw [lin_told (good_addAll (joinT_good _ _)), lin_addAll (joinT_good _ _), lin_joinT]
  have e : linS f (joinL (saidT r) (negS (saidT l))) = linS f (joinT (saidT r) (negS (saidT l))) := by
    unfold joinT
    rw [lin_addAll good_nil]
    show _ = 0 + _
    grind
  rw [e, lin_joinT]
  have e2 : (fun u => linS (fun v => f (u ++ v)) (negS (saidT l))) = fun u => -1 * linS (fun v => f (u ++ v)) (saidT l) := funext fun u => by rw [lin_negS]; grind
  rw [e2, lin_scale]
  unfold brk
  grind
theorem say_said : ∀ (t : Tr), (lets t).length ≤ 5 → (∀ x ∈ lets t, x < 4) → ∀ f, linS f (sayD t) = linS f (saidT t)
  | .leaf x, _, _, f => rfl
  | .node l r, h5, hx, f => by
    have el : (lets (.node l r)).length = (lets l).length + (lets r).length := List.length_append
    rw [el] at h5
    have p1 := lets_pos l
    have p2 := lets_pos r
    have i1 := say_said l (by omega) fun x h => hx x (List.mem_append_left _ h)
    have i2 := say_said r (by omega) fun x h => hx x (List.mem_append_right _ h)
    rw [lin_said]
    show linS f (subT' (joinT (sayD l) (sayD r)) (joinT (sayD r) (sayD l))) = _
    rw [(lin_subT f _ _ (joinT_good _ _)).2, lin_joinT, lin_joinT]
    have b1 := brk_congr i1 i2 f
    have b2 := brk_congr i2 i1 f
    unfold brk at b1 b2 ⊢
    rw [b1, b2]
/-! sums of what trees say; words combed -/
theorem law_few_ok {n : Nat} {p : D} (hp : Ps (n + 3) p) : ∃ (r : Rat) (p' : D), m__law_few [p] = .ok (eRat.en r, p') ∧ Bd 2520 1000 r ∧ Ps n p' := by
  obtain ⟨g1, p1, e1, g10, g11, hp1⟩ := take_ok (n := n + 2) (many := 5) hp (by decide) (by decide)
  by_cases h3 : g1 < 3
  · have hx : ∃ r : Rat, ixD (.lst [.tup [.int 1, .int 1], .tup [.int (-1), .int 1], .tup [.int 2, .int 1]]) (.int g1) = some (eRat.en r) ∧ Bd 2520 1000 r := by
      have : g1 = 0 ∨ g1 = 1 ∨ g1 = 2 := by omega
      rcases this with rfl | rfl | rfl
      · exact ⟨1, rfl, by decide, by decide⟩
      · exact ⟨-1, rfl, by decide, by decide⟩
      · exact ⟨2, rfl, by decide, by decide⟩
    obtain ⟨r, er, hr⟩ := hx
    refine ⟨r, p1, ?_, hr, Ps.mono (by omega) hp1⟩
    simp (disch := first | assumption | decide | omega) only [m__law_few, b__law_few, runF, m0, sSeq, sSet, sIf, sRet, sRetN, sExpr, sSkip_ok, sSetA, sSetIx, sFor, sPar, sBind, sAug, eVar, eCon_ok, eOp2, eOp1, eCall, eCallM, eCallT, eTup, eLst, eArg, eIf, tVal, tNotF, tAndF, tOrF, eB, eAndF, eOrF, eNotF, eIxA, eIxO, eCatO, ixA_lst, ixA_tup, ixA_scr, eDNew, eDGet, eDGetO, eDPop, eSortK, eMM, aHoleQ, aHole, aNil_ok, aCons, oNone_ok, oSome, eSlice, eSliceL, iSeqA, iSeq, iRange, iArg, ePeek, tPeek, eOwnM, tYes_ok, bind_ok, bind_exc, bind_stuck, of_some, flatD, SW.gName, List.getD_cons_zero, List.getD_cons_succ, List.set_cons_zero, List.set_cons_succ, List.map_cons, List.map_nil, List.length_cons, List.length_nil, List.cons_append, List.nil_append, List.replicate, Nat.reduceAdd, Nat.reduceSub, addD_int, subD_int, negD_int, repD_int, modD_int, fdivD_int, ltA_int, leA_int, gtA_int, geA_int, eqD_int, neD_int, pow_10_18, pow_10_60, e1, decide_eq_true h3, if_true, er, Option.getD_some]
  · have b1 : bits2 2 1000 = true := bits2_l (by decide)
    obtain ⟨g2, p2, e2, g20, g21, hp2⟩ := take_ok (n := n + 1) (many := 2 * 1000 + 1) hp1 (by decide) (by decide)
    obtain ⟨g3, p3, e3, g30, g31, hp3⟩ := take_ok (n := n) (many := 9) hp2 (by decide) (by decide)
    have hd : ∃ d : Nat, 1 + g3 = ((d : Nat) : Int) ∧ (d = 1 ∨ d = 2 ∨ d = 3 ∨ d = 4 ∨ d = 5 ∨ d = 6 ∨ d = 7 ∨ d = 8 ∨ d = 9) := ⟨(1 + g3).toNat, by omega, by omega⟩
    obtain ⟨d, ed, d1⟩ := hd
    have el := law_low_ok (g2 - 1000) (show d ≠ 0 by omega)
    refine ⟨mkRat (g2 - 1000) d, p3, ?_, bd_of (by omega) rfl (by rcases d1 with h | h | h | h | h | h | h | h | h <;> subst h <;> decide) (by omega), hp3⟩
    simp (disch := first | assumption | decide | omega) only [m__law_few, b__law_few, runF, m0, sSeq, sSet, sIf, sRet, sRetN, sExpr, sSkip_ok, sSetA, sSetIx, sFor, sPar, sBind, sAug, eVar, eCon_ok, eOp2, eOp1, eCall, eCallM, eCallT, eTup, eLst, eArg, eIf, tVal, tNotF, tAndF, tOrF, eB, eAndF, eOrF, eNotF, eIxA, eIxO, eCatO, ixA_lst, ixA_tup, ixA_scr, eDNew, eDGet, eDGetO, eDPop, eSortK, eMM, aHoleQ, aHole, aNil_ok, aCons, oNone_ok, oSome, eSlice, eSliceL, iSeqA, iSeq, iRange, iArg, ePeek, tPeek, eOwnM, tYes_ok, bind_ok, bind_exc, bind_stuck, of_some, flatD, SW.gName, List.getD_cons_zero, List.getD_cons_succ, List.set_cons_zero, List.set_cons_succ, List.map_cons, List.map_nil, List.length_cons, List.length_nil, List.cons_append, List.nil_append, List.replicate, Nat.reduceAdd, Nat.reduceSub, addD_int, subD_int, negD_int, repD_int, modD_int, fdivD_int, ltA_int, leA_int, gtA_int, geA_int, eqD_int, neD_int, pow_10_18, pow_10_60, pow_10_3, e1, decide_eq_false h3, if_true, if_false, Bool.false_eq_true, e2, e3, ed, el, Option.getD_some]
/-- so many times a sum -/
def scS (q : Rat) (B : SumT) : SumT := B.map fun p => (p.1, q * p.2)
theorem lin_scS (f : Wd → Rat) (q : Rat) : ∀ B : SumT, linS f (scS q B) = q * linS f B
  | [] => by show (0 : Rat) = q * 0; grind
  | p :: B => by
    show q * p.2 * f p.1 + linS f (scS q B) = q * (p.2 * f p.1 + linS f B)
    rw [lin_scS f q B]
    grind
theorem mem_scS {q : Rat} {B : SumT} {t : Wd × Rat} (h : t ∈ scS q B) : ∃ p ∈ B, t = (p.1, q * p.2) := by
  obtain ⟨p, hp, e⟩ := List.mem_map.mp h
  exact ⟨p, hp, e.symm⟩
theorem scS_len (q : Rat) (B : SumT) : (scS q B).length = B.length := by unfold scS; rw [List.length_map]
def addS (A B : SumT) (q : Rat) : SumT := addAll (scS q B) A
theorem lin_addS {A : SumT} (g : Good A) (B : SumT) (q : Rat) (f : Wd → Rat) : linS f (addS A B q) = linS f A + q * linS f B := by
  unfold addS
  rw [lin_addAll g, lin_scS]
theorem acc_all {N M c j : Nat} (n0 : 0 < N) : ∀ (B A : SumT) (k : Nat), AccL N M c j k A → (∀ t ∈ B, t.1.length ≤ j ∧ (∀ x ∈ t.1, 0 ≤ x ∧ x < (c : Int)) ∧ Bd N M t.2) → AccL N M c j (k + B.length) (addAll B A)
  | [], _, _, h, _ => h
  | r :: B, A, k, h, ht => by
    have h1 := ht r (by simp)
    have := acc_all n0 B (addT A r.1 r.2) (k + 1) (h.add n0 h1.2.2 h1.1 h1.2.1) fun q hq => ht q (List.mem_cons_of_mem _ hq)
    rw [List.length_cons, show k + (B.length + 1) = k + 1 + B.length by omega]
    exact this
/-! combs -/
def fldT (t : Tr) (r : Wd) : Tr := r.foldl (fun t y => .node t (.leaf y.toNat)) t
def cmbT (x : Int) (r : Wd) : Tr := fldT (.leaf x.toNat) r
def cmbS : Wd → SumT
  | [] => []
  | x :: r => saidT (cmbT x r)
/-! Specht and Wever: what a tree says, combed, is so many times it -/
/-- a look at the word combed -/
def cm (f : Wd → Rat) (w : Wd) : Rat := linS f (cmbS w)
def lenQ (w : Wd) : Rat := ((w.length : Nat) : Rat)
/-- of leavings: combed, each length is so many times itself -/
structure Lie (l : SumT) : Prop where
  e : linS (ind []) l = 0
  h : ∀ f, linS (cm f) l = linS (fun w => lenQ w * f w) l
theorem Lie.add {A B : SumT} (g : Good A) (hA : Lie A) (hB : Lie B) (q : Rat) : Lie (addS A B q) := by
  refine ⟨?_, fun f => ?_⟩
  · rw [lin_addS g, hA.e, hB.e]
    grind
  · rw [lin_addS g, lin_addS g, hA.h, hB.h]
/-! words combed, added up -/
def combA (c : Wd → SumT) : SumT → SumT → SumT
  | [], s => s
  | p :: A, s => combA c A (addS s (c p.1) p.2)
theorem good_addS {A : SumT} (g : Good A) (B : SumT) (q : Rat) : Good (addS A B q) := good_addAll g
theorem lin_combA (c : Wd → SumT) (f : Wd → Rat) : ∀ (A s : SumT), Good s → linS f (combA c A s) = linS f s + linS (fun w => linS f (c w)) A
  | [], s, _ => by show linS f s = linS f s + 0; grind
  | p :: A, s, g => by
    show linS f (combA c A (addS s (c p.1) p.2)) = linS f s + (p.2 * linS f (c p.1) + linS (fun w => linS f (c w)) A)
    rw [lin_combA c f A _ (good_addS g _ _), lin_addS g]
    grind
/-! dicts that are one -/
theorem len_sub {α : Type} [DecidableEq α] : ∀ {a b : List α}, a.Nodup → (∀ x ∈ a, x ∈ b) → a.length ≤ b.length
  | [], _, _, _ => Nat.zero_le _
  | x :: a, b, n, h => by
    obtain ⟨h1, h2⟩ := List.nodup_cons.mp n
    have hx := h x (by simp)
    have := len_sub (b := b.erase x) h2 fun y hy => (List.mem_erase_of_ne (fun e : y = x => h1 (e ▸ hy))).mpr (h y (List.mem_cons_of_mem _ hy))
    rw [List.length_erase_of_mem hx] at this
    have : 0 < b.length := List.length_pos_of_mem hx
    rw [List.length_cons]
    omega
theorem eqE_E (B : SumT) : ∀ A : SumT, eqE (dE eRat.en B) (dE eRat.en A) = some (A.all fun p => decide (getT B p.1 = some p.2))
  | [] => rfl
  | p :: A => by
    have e : dE eRat.en (p :: A) = (wk p.1, eRat.en p.2) :: dE eRat.en A := rfl
    rw [e]
    unfold eqE
    rw [valD_E]
    cases hg : getT B p.1 with
    | none =>
      show some false = _
      rw [List.all_cons, hg, decide_eq_false (fun z => by cases z)]
      rfl
    | some q =>
      have h1 := eRat.hpy p.2
      have h2 := eRat.hpy q
      have hs : shOk (eRat.py p.2) (eRat.py q) = true := by
        unfold shOk
        rw [shaped_enc eRat (by decide), shaped_enc eRat (by decide)]
        rfl
      show (match (eRat.en p.2).py, (eRat.en q).py with
        | some a, some b => if shOk a b = true then (eqE (dE eRat.en B) (dE eRat.en A)).map fun c => PyData.eqv a b && c else none
        | _, _ => none) = _
      rw [h1, h2]
      dsimp only
      rw [if_pos hs, eqE_E B A, eRat.heq, List.all_cons, hg]
      show some (decide (p.2 = q) && _) = some (decide (some q = some p.2) && _)
      congr 2
      rw [Bool.eq_iff_iff, decide_eq_true_iff, decide_eq_true_iff]
      exact ⟨fun z => by rw [z], fun z => (Option.some.inj z).symm⟩
theorem lin_of_coef {A B : SumT} (gA : Good A) (gB : Good B) (h : ∀ w, coef A w = coef B w) : toldT A = toldT B := by
  have hk : (toldT A).map (·.1) = (toldT B).map (·.1) := rising_eq gA.told.up gB.told.up fun w => by
    rw [coef_mem gA.told.good, coef_mem gB.told.good, coef_told gA, coef_told gB, h]
  have key : ∀ {a b : SumT}, Good a → Good b → a.map (·.1) = b.map (·.1) → (∀ w, coef a w = coef b w) → a = b := by
    intro a b ga gb e hc
    refine List.ext_getElem (by simpa using congrArg List.length e) fun i h1 h2 => ?_
    have e1 : (a.map (·.1))[i]? = (b.map (·.1))[i]? := by rw [e]
    rw [List.getElem?_map, List.getElem?_map, List.getElem?_eq_getElem h1, List.getElem?_eq_getElem h2] at e1
    have e1 : a[i].1 = b[i].1 := Option.some.inj e1
    have c1 := coef_at ga (List.getElem_mem h1)
    have c2 := coef_at gb (List.getElem_mem h2)
    rw [hc, e1, c2] at c1
    exact Prod.ext e1 c1.symm
  exact key gA.told.good gB.told.good hk fun w => by rw [coef_told gA, coef_told gB, h]
theorem dct_one {A B : SumT} (gA : Good A) (gB : Good B) : dctEq (dE eRat.en A) (dE eRat.en B) = some (decide (toldT A = toldT B)) := by
  unfold dctEq
  rw [dE_len, dE_len, eqE_E]
  by_cases h : toldT A = toldT B
  · have hl : A.length = B.length := by rw [← (told_perm gA.nd).length_eq, h, (told_perm gB.nd).length_eq]
    rw [if_pos hl, decide_eq_true h]
    congr 1
    refine List.all_eq_true.mpr fun p hp => decide_eq_true ?_
    have : p ∈ toldT B := by rw [← h]; exact (told_perm gA.nd).mem_iff.mpr hp
    exact getT_of_mem gB.nd ((told_perm gB.nd).mem_iff.mp this)
  · rw [decide_eq_false h]
    by_cases hl : A.length = B.length
    · rw [if_pos hl]
      congr 1
      cases q : (A.all fun p => decide (getT B p.1 = some p.2)) with
      | false => rfl
      | true =>
        refine absurd (lin_of_coef gA gB fun w => ?_) h
        have all : ∀ p ∈ A, getT B p.1 = some p.2 := fun p hp => of_decide_eq_true (List.all_eq_true.mp q p hp)
        by_cases hw : w ∈ A.map (·.1)
        · obtain ⟨p, hp, rfl⟩ := List.mem_map.mp hw
          rw [coef_at gA hp]
          unfold coef
          rw [all p hp]
          rfl
        · have hb : w ∉ B.map (·.1) := fun z => by
            have := len_sub (a := w :: A.map (·.1)) (b := B.map (·.1)) (List.nodup_cons.mpr ⟨hw, gA.nd⟩) fun x hx => by
              rcases List.mem_cons.mp hx with e | hx
              · rw [e]; exact z
              · obtain ⟨p, hp, rfl⟩ := List.mem_map.mp hx
                exact List.mem_map.mpr ⟨_, getT_mem (all p hp), rfl⟩
            rw [List.length_cons, List.length_map, List.length_map] at this
            omega
          rw [coef_not hw, coef_not hb]
    · rw [if_neg hl]

/-! combed sums: what the program tells -/
theorem AccL.up {N M c j k k2 : Nat} {l : SumT} (h : AccL N M c j k l) (hk : k ≤ k2) : AccL N M c j k2 l := ⟨h.good, fun w => (h.bd w).mono (Nat.mul_le_mul_right _ hk), h.wd⟩
theorem AccL.top {N M M2 c c2 j k k2 : Nat} {l : SumT} (h : AccL N M c j k l) (hk : k * M ≤ k2 * M2) (hc : c ≤ c2) : AccL N M2 c2 j k2 l := ⟨h.good, fun w => (h.bd w).mono hk, fun p hp => ⟨(h.wd p hp).1, fun x hx => by have := (h.wd p hp).2 x hx; omega⟩⟩
theorem mB5 {m : Nat} (h : m ≤ 5) : mB m ≤ 2 ^ 75 ∧ nB m ≤ 16 := by
  have : ∀ m : Nat, m ≤ 5 → mB m ≤ 2 ^ 75 ∧ nB m ≤ 16 := by decide +kernel
  exact this m h
structure In5 (c : Nat) (l : SumT) : Prop where
  a : AccL 2520 (2 ^ 120) c 5 1 l
  c4 : c ≤ 4
theorem In5.terms {c : Nat} {l : SumT} (h : In5 c l) (c4 : c ≤ 4) : ∀ p ∈ l, p.1.length ≤ 5 ∧ (∀ x ∈ p.1, 0 ≤ x ∧ x < 4) ∧ Bd 2520 (2 ^ 120) p.2 := fun p hp => by
  refine ⟨(h.a.wd p hp).1, fun x hx => by have := (h.a.wd p hp).2 x hx; omega, ?_⟩
  have := h.a.bd p.1
  rw [Nat.one_mul, coef_at h.a.good hp] at this
  exact this
theorem In5.told {c : Nat} {l : SumT} (h : In5 c l) : In5 c (toldT l) ∧ Sm (toldT l) ∧ (toldT l).length ≤ 16807 ∧ ∀ p ∈ toldT l, p ∈ l := by
  have pm := told_perm h.a.good.nd
  have key : ∀ p ∈ toldT l, p ∈ l := fun p hp => pm.mem_iff.mp hp
  exact ⟨⟨⟨h.a.good.told.good, fun w => by rw [coef_told h.a.good]; exact h.a.bd w, fun p hp => h.a.wd p (key p hp)⟩, h.c4⟩, h.a.good.told, by rw [pm.length_eq]; exact wd_many (n := 6) (by decide) h.a.good.nd (fun p hp => ⟨(h.a.wd p hp).1, fun x hx => by have := (h.a.wd p hp).2 x hx; have := h.c4; omega⟩), key⟩
/-! brackets in whole numbers -/
/-! all words of a length -/
def lenW (m : Nat) : Nat → List (List Nat)
  | 0 => [[]]
  | n + 1 => (lenW m n).flatMap fun w => (List.range m).map fun x => x :: w
theorem mem_lenW {m : Nat} : ∀ {w : List Nat}, (∀ x ∈ w, x < m) → w ∈ lenW m w.length
  | [], _ => List.mem_singleton.mpr rfl
  | x :: w, h => by
    show x :: w ∈ (lenW m w.length).flatMap _
    rw [List.mem_flatMap]
    exact ⟨w, mem_lenW fun y hy => h y (List.mem_cons_of_mem _ hy), List.mem_map.mpr ⟨x, List.mem_range.mpr (h x List.mem_cons_self), rfl⟩⟩

def jn (A B : List (List Nat × Int)) : List (List Nat × Int) := A.flatMap fun p => B.map fun r => (p.1 ++ r.1, p.2 * r.2)
def brkZ : Tr → List (List Nat × Int)
  | .leaf x => [([x], 1)]
  | .node l r => jn (brkZ l) (brkZ r) ++ jn (brkZ r) ((brkZ l).map fun p => (p.1, -p.2))
def upS (A : List (List Nat × Int)) : SumT := A.map fun p => (p.1.map Int.ofNat, (p.2 : Rat))
theorem up_jn (A B : List (List Nat × Int)) : upS (jn A B) = joinL (upS A) (upS B) := by
  unfold upS jn joinL
  rw [List.map_flatMap, List.flatMap_map]
  congr 1
  funext p
  rw [List.map_map, List.map_map]
  refine List.map_congr_left fun r _ => ?_
  show ((p.1 ++ r.1).map Int.ofNat, ((p.2 * r.2 : Int) : Rat)) = (p.1.map Int.ofNat ++ r.1.map Int.ofNat, (p.2 : Rat) * (r.2 : Rat))
  rw [List.map_append, Rat.intCast_mul]
theorem up_neg (A : List (List Nat × Int)) : upS (A.map fun p => (p.1, -p.2)) = negS (upS A) := by
  unfold upS negS
  rw [List.map_map, List.map_map]
  refine List.map_congr_left fun p _ => ?_
  show (p.1.map Int.ofNat, ((-p.2 : Int) : Rat)) = (p.1.map Int.ofNat, -(p.2 : Rat))
  rw [Rat.intCast_neg]
theorem lin_joinL (f : Wd → Rat) (A B : SumT) : linS f (joinL A B) = linS (fun u => linS (fun v => f (u ++ v)) B) A := by
  have h := lin_joinT f A B
  unfold joinT at h
  rw [lin_addAll good_nil] at h
  have h0 : linS f [] = 0 := rfl
  rw [h0] at h
  grind
theorem lin_neg (f : Wd → Rat) (A : SumT) : linS f (negS A) = - linS f A := by
  induction A with
  | nil => show (0 : Rat) = -0; grind
  | cons p A ih => show -p.2 * f p.1 + linS f (negS A) = -(p.2 * f p.1 + linS f A); rw [ih]; grind
theorem said_lin : ∀ (t : Tr) (f : Wd → Rat), linS f (saidT t) = linS f (upS (brkZ t))
  | .leaf x, f => rfl
  | .node l r, f => by
    have g : Good (addAll (joinL (saidT r) (negS (saidT l))) (joinT (saidT l) (saidT r))) := good_addAll (joinT_good _ _)
    show linS f (toldT _) = linS f (upS (jn (brkZ l) (brkZ r) ++ jn (brkZ r) ((brkZ l).map fun p => (p.1, -p.2))))
    rw [lin_told g, lin_addAll (joinT_good _ _), lin_joinT, lin_joinL]
    have eu : upS (jn (brkZ l) (brkZ r) ++ jn (brkZ r) ((brkZ l).map fun p => (p.1, -p.2))) = joinL (upS (brkZ l)) (upS (brkZ r)) ++ joinL (upS (brkZ r)) (negS (upS (brkZ l))) := by
      rw [← up_neg, ← up_jn, ← up_jn]
      unfold upS
      rw [List.map_append]
    rw [eu, lin_append, lin_joinL, lin_joinL, said_lin l, said_lin r]
    congr 1
    · refine lin_congr fun p _ => said_lin r _
    · refine lin_congr fun p _ => ?_
      rw [lin_neg, lin_neg, said_lin l]
/-! the finite part: each least word's tree -/
def cntOk (a b : List Nat) : Bool := (List.range 4).all fun x => decide (a.count x = b.count x)
def coefZ (w : List Nat) (l : List (List Nat × Int)) : Int := l.foldr (fun p a => (if p.1 = w then p.2 else 0) + a) 0
def okB (w : List Nat) : Bool := (brkZ (treeT 8 w)).all (fun p => (decide (p.1 = w) || ltW w p.1) && cntOk p.1 w && decide (p.1.length = w.length)) && decide (coefZ w (brkZ (treeT 8 w)) = 1)
def chkB (w : List Nat) : Bool := (!leastT w || okB w) && (leastT w == leastL w)
theorem chk0 : (lenW 4 0).all chkB = true := by decide +kernel
theorem chk1 : (lenW 4 1).all chkB = true := by decide +kernel
theorem chk2 : (lenW 4 2).all chkB = true := by decide +kernel
theorem chk3 : (lenW 4 3).all chkB = true := by decide +kernel
theorem chk4 : (lenW 4 4).all chkB = true := by decide +kernel
theorem chk5 : (lenW 4 5).all chkB = true := by decide +kernel
theorem chk_all {w : List Nat} (h : LetW 5 4 w) : chkB w = true := by
  have hm := mem_lenW h.2
  have hl := h.1
  have : w.length = 0 ∨ w.length = 1 ∨ w.length = 2 ∨ w.length = 3 ∨ w.length = 4 ∨ w.length = 5 := by omega
  rcases this with e | e | e | e | e | e
  · rw [e] at hm; exact List.all_eq_true.mp chk0 w hm
  · rw [e] at hm; exact List.all_eq_true.mp chk1 w hm
  · rw [e] at hm; exact List.all_eq_true.mp chk2 w hm
  · rw [e] at hm; exact List.all_eq_true.mp chk3 w hm
  · rw [e] at hm; exact List.all_eq_true.mp chk4 w hm
  · rw [e] at hm; exact List.all_eq_true.mp chk5 w hm
theorem least_alike {w : List Nat} (h : LetW 5 4 w) : leastT w = leastL w := by
  have := chk_all h
  unfold chkB at this
  rw [Bool.and_eq_true, beq_iff_eq] at this
  exact this.2
theorem ok_of {w : List Nat} (h : LetW 5 4 w) (hl : leastT w = true) : okB w = true := by
  have := chk_all h
  unfold chkB at this
  rw [hl, Bool.and_eq_true] at this
  simpa using this.1
abbrev ofN (w : List Nat) : Wd := w.map Int.ofNat
theorem ofN_inj {a b : List Nat} (h : ofN a = ofN b) : a = b := (List.map_inj_right (f := Int.ofNat) fun x y e => Int.ofNat.inj e).mp h
theorem lin_coefZ (w : List Nat) : ∀ l : List (List Nat × Int), linS (ind (ofN w)) (upS l) = (coefZ w l : Rat)
  | [] => rfl
  | p :: l => by
    show (p.2 : Rat) * ind (ofN w) (ofN p.1) + linS (ind (ofN w)) (upS l) = (((if p.1 = w then p.2 else 0) + coefZ w l : Int) : Rat)
    rw [lin_coefZ w l, Rat.intCast_add]
    unfold ind
    by_cases h : p.1 = w
    · rw [if_pos h, if_pos (by rw [h])]; grind
    · rw [if_neg h, if_neg fun z => h (ofN_inj z)]
      show (p.2 : Rat) * 0 + _ = ((0 : Int) : Rat) + _
      grind
theorem lin_none {v : Wd} : ∀ {l : SumT}, (∀ p ∈ l, p.1 ≠ v) → linS (ind v) l = 0
  | [], _ => rfl
  | p :: l, h => by
    show p.2 * ind v p.1 + linS (ind v) l = 0
    rw [lin_none fun q hq => h q (List.mem_cons_of_mem _ hq)]
    unfold ind
    rw [if_neg (h p List.mem_cons_self)]
    grind
/-- what the law asks of what a tree says -/
structure Well (w : List Nat) (T : SumT) : Prop where
  hd : ∃ R, T = (ofN w, 1) :: R ∧ ∀ p ∈ R, ∃ v : List Nat, p.1 = ofN v ∧ ltW w v = true ∧ v ≠ w ∧ v.Perm w ∧ p.2 ≠ 0
theorem perm_of {a b : List Nat} (ha : ∀ x ∈ a, x < 4) (hb : ∀ x ∈ b, x < 4) (h : cntOk a b = true) : a.Perm b := by
  refine List.perm_iff_count.mpr fun x => ?_
  by_cases hx : x < 4
  · exact of_decide_eq_true (List.all_eq_true.mp h x (List.mem_range.mpr hx))
  · rw [List.count_eq_zero.mpr fun z => hx (ha x z), List.count_eq_zero.mpr fun z => hx (hb x z)]
theorem brkZ_lets : ∀ (t : Tr) (p : List Nat × Int), p ∈ brkZ t → ∀ x ∈ p.1, x ∈ lets t
  | .leaf y, p, hp, x, hx => by rw [List.mem_singleton.mp hp] at hx; exact hx
  | .node l r, p, hp, x, hx => by
    have hj : ∀ {A B : List (List Nat × Int)} {p : List Nat × Int}, p ∈ jn A B → ∃ a ∈ A, ∃ b ∈ B, p.1 = a.1 ++ b.1 := fun {A B p} h => by
      obtain ⟨a, ha, h⟩ := List.mem_flatMap.mp h
      obtain ⟨b, hb, e⟩ := List.mem_map.mp h
      exact ⟨a, ha, b, hb, by rw [← e]⟩
    show x ∈ l.letters ++ r.letters
    rcases List.mem_append.mp hp with h | h
    · obtain ⟨a, ha, b, hb, e⟩ := hj h
      rw [e] at hx
      rcases List.mem_append.mp hx with hx | hx
      · exact List.mem_append_left _ (brkZ_lets l a ha x hx)
      · exact List.mem_append_right _ (brkZ_lets r b hb x hx)
    · obtain ⟨a, ha, b, hb, e⟩ := hj h
      obtain ⟨b', hb', rfl⟩ := List.mem_map.mp hb
      rw [e] at hx
      rcases List.mem_append.mp hx with hx | hx
      · exact List.mem_append_right _ (brkZ_lets r a ha x hx)
      · exact List.mem_append_left _ (brkZ_lets l b' hb' x hx)
theorem well_of {w : List Nat} (h : LetW 5 4 w) (hl : leastT w = true) (hlet : lets (treeT 8 w) = w) : Well w (saidT (treeT 8 w)) := by
  have hb := (said_b (treeT 8 w) (by rw [hlet]; exact h.1) (by rw [hlet]; exact h.2)).b
  have ok := ok_of h hl
  unfold okB at ok
  rw [Bool.and_eq_true, decide_eq_true_iff] at ok
  obtain ⟨ok1, ok2⟩ := ok
  have g := hb.sm.good
  have cf : ∀ v, coef (saidT (treeT 8 w)) v = linS (ind v) (upS (brkZ (treeT 8 w))) := fun v => by rw [← lin_ind g.nd, said_lin]
  have cw : coef (saidT (treeT 8 w)) (ofN w) = 1 := by rw [cf, lin_coefZ, ok2]; rfl
  have key : ∀ p ∈ saidT (treeT 8 w), ∃ v : List Nat, p.1 = ofN v ∧ (v = w ∨ ltW w v = true) ∧ v.Perm w ∧ v.length = w.length := fun p hp => by
    have hne : coef (saidT (treeT 8 w)) p.1 ≠ 0 := by rw [coef_at g hp]; exact g.nz p hp
    rw [cf] at hne
    have hex : ∃ q ∈ upS (brkZ (treeT 8 w)), q.1 = p.1 := Classical.byContradiction fun z => hne (lin_none fun q hq e => z ⟨q, hq, e⟩)
    obtain ⟨q, hq, e⟩ := hex
    obtain ⟨q', hq', rfl⟩ := List.mem_map.mp hq
    have o := List.all_eq_true.mp ok1 q' hq'
    rw [Bool.and_eq_true, Bool.and_eq_true, Bool.or_eq_true, decide_eq_true_iff, decide_eq_true_iff] at o
    exact ⟨q'.1, e.symm, o.1.1, perm_of (fun x hx => h.2 x (by rw [← hlet]; exact brkZ_lets _ q' hq' x hx)) h.2 o.1.2, o.2⟩
  have hm : ofN w ∈ (saidT (treeT 8 w)).map (·.1) := (coef_mem g).mpr (by rw [cw]; exact fun z => by cases z)
  generalize saidT (treeT 8 w) = T at hb g cw key hm
  have up := hb.sm.up
  cases T with
  | nil => cases hm
  | cons p R =>
    rw [List.map_cons] at up
    have up' := List.pairwise_cons.mp up
    have h1 : p.1 = ofN w := by
      rcases List.mem_cons.mp hm with e | hm'
      · exact e.symm
      · obtain ⟨v, ev, hv, _, hlen⟩ := key p List.mem_cons_self
        rcases hv with rfl | hv
        · exact ev
        · have a1 := up'.1 (ofN w) hm'
          rw [ev] at a1
          have a2 : rkLt (ofN w) (ofN v) = true := by
            unfold rkLt
            rw [List.length_map, List.length_map, if_pos hlen.symm, ltN_cast]
            exact hv
          rw [rkLt_asymm a2] at a1
          cases a1
    have h2 : p.2 = 1 := by rw [← coef_at g List.mem_cons_self, h1]; exact cw
    refine ⟨R, by rw [← h1, ← h2], fun q hq => ?_⟩
    obtain ⟨v, ev, hv, hp, hlen⟩ := key q (List.mem_cons_of_mem _ hq)
    have hne : v ≠ w := fun z => by
      have := up'.1 q.1 (List.mem_map.mpr ⟨q, hq, rfl⟩)
      rw [h1, ev, z, rkLt_self] at this
      cases this
    refine ⟨v, ev, ?_, hne, hp, hb.sm.nz q (List.mem_cons_of_mem _ hq)⟩
    rcases hv with e | hv
    · exact (hne e).elim
    · exact hv

/-! rows of least words: what their trees say, joined -/
def rowW (w : List Nat) : List (List Nat) := fallT (w.length + 1) w
def fallOk (R : List (List Nat)) : Bool := (List.range (R.length - 1)).all fun k => !ltW (R.getD k []) (R.getD (k + 1) [])
def chkR (w : List Nat) : Bool := (rowW w).all (fun u => leastT u) && decide ((rowW w).flatten = w) && fallOk (rowW w)
theorem chr0 : (lenW 4 0).all chkR = true := by decide +kernel
theorem chr1 : (lenW 4 1).all chkR = true := by decide +kernel
theorem chr2 : (lenW 4 2).all chkR = true := by decide +kernel
theorem chr3 : (lenW 4 3).all chkR = true := by decide +kernel
theorem chr4 : (lenW 4 4).all chkR = true := by decide +kernel
theorem chr5 : (lenW 4 5).all chkR = true := by decide +kernel
theorem chr_all {w : List Nat} (h : LetW 5 4 w) : (∀ u ∈ rowW w, leastT u = true) ∧ (rowW w).flatten = w ∧ fallOk (rowW w) = true := by
  have hm := mem_lenW h.2
  have hl := h.1
  have hc : chkR w = true := by
    have : w.length = 0 ∨ w.length = 1 ∨ w.length = 2 ∨ w.length = 3 ∨ w.length = 4 ∨ w.length = 5 := by omega
    rcases this with e | e | e | e | e | e
    · rw [e] at hm; exact List.all_eq_true.mp chr0 w hm
    · rw [e] at hm; exact List.all_eq_true.mp chr1 w hm
    · rw [e] at hm; exact List.all_eq_true.mp chr2 w hm
    · rw [e] at hm; exact List.all_eq_true.mp chr3 w hm
    · rw [e] at hm; exact List.all_eq_true.mp chr4 w hm
    · rw [e] at hm; exact List.all_eq_true.mp chr5 w hm
  unfold chkR at hc
  rw [Bool.and_eq_true, Bool.and_eq_true, decide_eq_true_iff] at hc
  exact ⟨fun u hu => List.all_eq_true.mp hc.1.1 u hu, hc.1.2, hc.2⟩
theorem row_in {w u : List Nat} (h : LetW 5 4 w) (hu : u ∈ rowW w) : LetW 5 4 u ∧ leastT u = true ∧ 1 ≤ u.length := by
  obtain ⟨h1, h2, _⟩ := chr_all h
  have hl : leastT u = true := h1 u hu
  have hf : ∀ x ∈ u, x ∈ w := fun x hx => by rw [← h2]; exact List.mem_flatten.mpr ⟨u, hu, hx⟩
  have hlen : u.length ≤ w.length := by
    rw [← h2, List.length_flatten]
    have : ∀ (l : List Nat) (n : Nat), n ∈ l → n ≤ l.sum := by
      intro l
      induction l with
      | nil => intro n hn; cases hn
      | cons a l ih =>
        intro n hn
        rw [List.sum_cons]
        rcases List.mem_cons.mp hn with e | hn
        · omega
        · have := ih n hn; omega
    exact this _ _ (List.mem_map.mpr ⟨u, hu, rfl⟩)
  refine ⟨⟨Nat.le_trans hlen h.1, fun x hx => h.2 x (hf x hx)⟩, hl, ?_⟩
  cases u with
  | nil => cases hl
  | cons _ _ => rw [List.length_cons]; omega
theorem least_lets {u : List Nat} (h : LetW 5 4 u) (h1 : 1 ≤ u.length) : lets (treeT 8 u) = u ∧ (treeT 8 u).depth < u.length := ⟨tree_letters 8 u h1 (by have := h.1; omega), tree_depth 8 u h1 (by have := h.1; omega)⟩
/-- the rows' sum, by the program -/
def rowS : List (List Nat) → SumT → SumT
  | [], T => T
  | u :: R, T => rowS R (toldT (joinT T (saidT (treeT 8 u))))
/-- the rows' sum, by the law -/
def rowDD : List (List Nat) → SumT → SumT
  | [], T => T
  | u :: R, T => rowDD R (joinT T (sayD (treeT 8 u)))
def rsF : List (List Nat) → (Wd → Rat) → Rat
  | [], f => f []
  | u :: R, f => linS (fun x => rsF R (fun y => f (x ++ y))) (saidT (treeT 8 u))
theorem lin_rowS (f : Wd → Rat) : ∀ (R : List (List Nat)) (T : SumT), linS f (rowS R T) = linS (fun x => rsF R (fun y => f (x ++ y))) T
  | [], T => by
    show linS f T = linS (fun x => f (x ++ [])) T
    simp
  | u :: R, T => by
    show linS f (rowS R (toldT (joinT T (saidT (treeT 8 u))))) = _
    rw [lin_rowS f R, lin_told (joinT_good _ _), lin_joinT]
    refine lin_congr fun p _ => ?_
    show _ = linS (fun x => rsF R (fun y => f (p.1 ++ (x ++ y)))) (saidT (treeT 8 u))
    refine lin_congr fun q _ => ?_
    simp only [List.append_assoc]
theorem lin_rowD (f : Wd → Rat) : ∀ (R : List (List Nat)) (T : SumT), (∀ u ∈ R, (lets (treeT 8 u)).length ≤ 5 ∧ ∀ x ∈ lets (treeT 8 u), x < 4) → linS f (rowDD R T) = linS (fun x => rsF R (fun y => f (x ++ y))) T
  | [], T, _ => by
    show linS f T = linS (fun x => f (x ++ [])) T
    simp
  | u :: R, T, h => by
    show linS f (rowDD R (joinT T (sayD (treeT 8 u)))) = _
    rw [lin_rowD f R _ fun v hv => h v (List.mem_cons_of_mem _ hv), lin_joinT]
    refine lin_congr fun p _ => ?_
    rw [say_said _ (h u (by simp)).1 (h u (by simp)).2]
    show _ = linS (fun x => rsF R (fun y => f (p.1 ++ (x ++ y)))) (saidT (treeT 8 u))
    refine lin_congr fun q _ => ?_
    simp only [List.append_assoc]
/-- the word once, and words above it -/
structure Tri (w : List Nat) (T : SumT) : Prop where
  g : Good T
  up : ∀ p ∈ T, ∃ v : List Nat, p.1 = ofN v ∧ v.length = w.length ∧ (v = w ∨ ltW w v = true)
  one : coef T (ofN w) = 1
theorem ltW_app1 : ∀ (a b c d : List Nat), a.length = b.length → ltW a b = true → ltW (a ++ c) (b ++ d) = true
  | [], [], _, _, _, h => by cases h
  | [], _ :: _, _, _, h, _ => by cases h
  | _ :: _, [], _, _, h, _ => by cases h
  | x :: a, y :: b, c, d, hl, h => by
    rw [List.cons_append, List.cons_append]
    unfold ltW at h ⊢
    by_cases e : x = y
    · rw [if_pos e] at h ⊢
      exact ltW_app1 a b c d (by simpa using hl) h
    · rw [if_neg e] at h ⊢
      exact h
theorem ltW_app2 : ∀ (a c d : List Nat), ltW c d = true → ltW (a ++ c) (a ++ d) = true
  | [], _, _, h => h
  | x :: a, c, d, h => by
    rw [List.cons_append, List.cons_append]
    unfold ltW
    rw [if_pos rfl]
    exact ltW_app2 a c d h
theorem tri_nil : Tri [] [([], 1)] := ⟨⟨by simp, fun p hp => by rw [List.mem_singleton.mp hp]; exact fun z => by cases z⟩, fun p hp => ⟨[], by rw [List.mem_singleton.mp hp]; rfl, rfl, .inl rfl⟩, rfl⟩
theorem Tri.join {w u : List Nat} {T S : SumT} (a : Tri w T) (b : Tri u S) : Tri (w ++ u) (toldT (joinT T S)) := by
  have g := joinT_good T S
  refine ⟨g.told.good, fun p hp => ?_, ?_⟩
  · have hp : p ∈ joinT T S := (told_perm g.nd).mem_iff.mp hp
    have hm : ∃ x ∈ T, ∃ y ∈ S, p.1 = x.1 ++ y.1 := by
      rcases mem_addAll hp with ⟨t, ht, e⟩ | h
      · obtain ⟨x, hx, y, hy, rfl⟩ := mem_join ht
        exact ⟨x, hx, y, hy, e⟩
      · cases h
    obtain ⟨x, hx, y, hy, e⟩ := hm
    obtain ⟨v, e1, l1, c1⟩ := a.up x hx
    obtain ⟨v', e2, l2, c2⟩ := b.up y hy
    refine ⟨v ++ v', ?_, by rw [List.length_append, List.length_append, l1, l2], ?_⟩
    · rw [e, e1, e2]
      show ofN v ++ ofN v' = (v ++ v').map Int.ofNat
      rw [List.map_append]
    · rcases c1 with rfl | c1
      · rcases c2 with rfl | c2
        · exact .inl rfl
        · exact .inr (ltW_app2 v _ _ c2)
      · exact .inr (ltW_app1 w v u v' l1.symm c1)
  · rw [coef_told g, ← lin_ind g.nd, lin_joinT]
    have key : linS (fun x => linS (fun y => ind (ofN (w ++ u)) (x ++ y)) S) T = linS (fun x => linS (ind (ofN u)) S * ind (ofN w) x) T := by
      refine lin_congr fun p hp => ?_
      obtain ⟨v, e1, l1, _⟩ := a.up p hp
      have hi : ∀ y, ind (ofN (w ++ u)) (p.1 ++ y) = ind (ofN w) p.1 * ind (ofN u) y := fun y => by
        have ea : ofN (w ++ u) = ofN w ++ ofN u := List.map_append
        unfold ind
        by_cases h1 : p.1 = ofN w
        · rw [if_pos h1, h1, ea]
          by_cases h2 : y = ofN u
          · rw [if_pos h2, h2, if_pos rfl]; grind
          · rw [if_neg h2, if_neg fun z => h2 (List.append_cancel_left z)]; grind
        · rw [if_neg h1, if_neg fun z => h1 ?_]
          · grind
          · rw [ea] at z
            exact (List.append_inj z (by rw [e1, List.length_map, List.length_map, l1])).1
      rw [show (fun y => ind (ofN (w ++ u)) (p.1 ++ y)) = fun y => ind (ofN w) p.1 * ind (ofN u) y from funext hi, lin_scale]
      grind
    rw [key, lin_scale, lin_ind a.g.nd, lin_ind b.g.nd, a.one, b.one]
    grind
theorem tri_said {u : List Nat} (h : LetW 5 4 u) (hl : leastT u = true) (h1 : 1 ≤ u.length) : Tri u (saidT (treeT 8 u)) := by
  obtain ⟨e1, e2⟩ := least_lets h h1
  have g := (said_b (treeT 8 u) (by rw [e1]; exact h.1) (by rw [e1]; exact h.2)).b.sm.good
  obtain ⟨R, eR, hR⟩ := (well_of h hl e1).hd
  refine ⟨g, fun p hp => ?_, ?_⟩
  · rw [eR] at hp
    rcases List.mem_cons.mp hp with e | hp
    · exact ⟨u, by rw [e], rfl, .inl rfl⟩
    · obtain ⟨v, ev, hv, _, hpm, _⟩ := hR p hp
      exact ⟨v, ev, hpm.length_eq, .inr hv⟩
  · have hm : (ofN u, (1 : Rat)) ∈ saidT (treeT 8 u) := by rw [eR]; simp
    exact coef_at g hm
theorem tri_rows : ∀ (R : List (List Nat)) (w : List Nat) (T : SumT), Tri w T → (∀ u ∈ R, LetW 5 4 u ∧ leastT u = true ∧ 1 ≤ u.length) → Tri (w ++ R.flatten) (rowS R T)
  | [], w, T, h, _ => by rw [List.flatten_nil, List.append_nil]; exact h
  | u :: R, w, T, h, hu => by
    obtain ⟨a, b, c⟩ := hu u (by simp)
    have := tri_rows R (w ++ u) _ (h.join (tri_said a b c)) fun v hv => hu v (List.mem_cons_of_mem _ hv)
    rw [List.flatten_cons, ← List.append_assoc]
    exact this
/-- the row of a word -/
def RS (w : List Nat) : SumT := rowS (rowW w) [([], 1)]
theorem tri_RS {w : List Nat} (h : LetW 5 4 w) : Tri w (RS w) := by
  have := tri_rows (rowW w) [] _ tri_nil fun u hu => row_in h hu
  rw [(chr_all h).2.1, List.nil_append] at this
  exact this
theorem lin_RS (f : Wd → Rat) (w : List Nat) : linS f (RS w) = rsF (rowW w) f := by
  unfold RS
  rw [lin_rowS]
  show 1 * rsF (rowW w) (fun y => f ([] ++ y)) + 0 = _
  have : (fun y : Wd => f ([] ++ y)) = f := rfl
  rw [this]
  grind
/-! the bounds -/
theorem rs_step {L l : Nat} (h1 : 1 ≤ l) (h5 : L + l ≤ 5) : 2 ^ L * nB l ≤ 2 ^ (L + l) ∧ 2 ^ L * nB l * (2 ^ (30 * L) * mB l) ≤ 2 ^ (30 * (L + l)) := by
  have a : nB l ≤ 2 ^ l := Nat.pow_le_pow_right (by decide) (by omega)
  have b : mB l ≤ 2 ^ (15 * l) := by
    unfold mB
    refine Nat.pow_le_pow_right (by decide) ?_
    have : l = 1 ∨ l = 2 ∨ l = 3 ∨ l = 4 ∨ l = 5 := by omega
    rcases this with rfl | rfl | rfl | rfl | rfl <;> decide
  have e1 : 2 ^ L * nB l ≤ 2 ^ (L + l) := by
    rw [Nat.pow_add]
    exact Nat.mul_le_mul_left _ a
  refine ⟨e1, ?_⟩
  have e2 : 2 ^ (30 * L) * mB l ≤ 2 ^ (30 * L + 15 * l) := by
    rw [Nat.pow_add]
    exact Nat.mul_le_mul_left _ b
  refine Nat.le_trans (Nat.mul_le_mul e1 e2) ?_
  rw [← Nat.pow_add]
  exact Nat.pow_le_pow_right (by decide) (by omega)
theorem rs_b : ∀ (R : List (List Nat)) (L : Nat) (T : SumT), SumB 4 L (2 ^ L) 1 (2 ^ (30 * L)) T → (∀ u ∈ R, LetW 5 4 u ∧ leastT u = true ∧ 1 ≤ u.length) → L + R.flatten.length ≤ 5 → SumB 4 (L + R.flatten.length) (2 ^ (L + R.flatten.length)) 1 (2 ^ (30 * (L + R.flatten.length))) (rowS R T)
  | [], L, T, h, _, _ => by rw [List.flatten_nil]; exact h
  | u :: R, L, T, h, hu, h5 => by
    obtain ⟨a, _, c⟩ := hu u (by simp)
    rw [List.flatten_cons, List.length_append] at h5
    obtain ⟨e1, _⟩ := least_lets a c
    have B := (said_b (treeT 8 u) (by rw [e1]; exact a.1) (by rw [e1]; exact a.2)).b
    rw [e1] at B
    obtain ⟨s1, s2⟩ := rs_step (L := L) c (by omega)
    have j := (DicB.join (by decide) (by decide) h.dic B.dic).told
    have j2 : SumB 4 (L + u.length) (2 ^ (L + u.length)) 1 (2 ^ (30 * (L + u.length))) (toldT (joinT T (saidT (treeT 8 u)))) := ⟨j.sm, j.lt, j.ln, fun p hp => (j.bd p hp).mono s2, Nat.le_trans j.sz s1⟩
    have := rs_b R (L + u.length) _ j2 (fun v hv => hu v (List.mem_cons_of_mem _ hv)) (by omega)
    rw [List.flatten_cons, List.length_append, ← Nat.add_assoc]
    exact this
theorem nil_b : SumB 4 0 (2 ^ 0) 1 (2 ^ (30 * 0)) [([], 1)] := by
  refine ⟨⟨List.pairwise_singleton _ _, fun p hp => ?_⟩, fun p hp x hx => ?_, fun p hp => ?_, fun p hp => ?_, by decide⟩
  · rw [List.mem_singleton.mp hp]
    exact fun z => by cases z
  · rw [List.mem_singleton.mp hp] at hx
    cases hx
  · rw [List.mem_singleton.mp hp]
    exact Nat.le_refl _
  · rw [List.mem_singleton.mp hp]
    exact ⟨by decide, by decide⟩
theorem RS_b {w : List Nat} (h : LetW 5 4 w) : SumB 4 5 32 1 (2 ^ 150) (RS w) := by
  have := rs_b (rowW w) 0 _ nil_b (fun u hu => row_in h hu) (by rw [(chr_all h).2.1]; have := h.1; omega)
  rw [(chr_all h).2.1, Nat.zero_add] at this
  have h5 := h.1
  exact ⟨this.sm, this.lt, fun p hp => Nat.le_trans (this.ln p hp) h5, fun p hp => (this.bd p hp).mono (Nat.pow_le_pow_right (by decide) (by omega)), Nat.le_trans this.sz (Nat.pow_le_pow_right (by decide) h5)⟩
/-! by the program -/
theorem jt_loop (y0 : Option D) : ∀ (R : List (List Nat)) (L : Nat) (T : SumT) (y2 y3 : Option D), SumB 4 L (2 ^ L) 1 (2 ^ (30 * L)) T → (∀ u ∈ R, LetW 5 4 u ∧ leastT u = true ∧ 1 ≤ u.length) → L + R.flatten.length ≤ 5 →
    ∃ z2 z3, forL (gName 2) ((sSeq (sSet 3 eDNew) (sSeq (sExpr (eCallM m_joined_to 0 3 (aHoleQ 3 (aCons (eVar 1) (aCons (eCall m_said_by (aCons (eCall m_tree_by (aCons (eVar 2) aNil)) aNil)) aNil))))) (sSet 1 (ePeekL (eCall m_told_sum (aCons (eVar 3) aNil))))))) (R.map eW.en) [y0, some (eSum.en T), y2, y3] = .ok (.nx [y0, some (eSum.en (rowS R T)), z2, z3])
  | [], L, T, y2, y3, _, _, _ => ⟨y2, y3, rfl⟩
  | u :: R, L, T, y2, y3, h, hu, h5 => by
    obtain ⟨a, b, c⟩ := hu u (by simp)
    rw [List.flatten_cons, List.length_append] at h5
    obtain ⟨e1, e2⟩ := least_lets a c
    have B := (said_b (treeT 8 u) (by rw [e1]; exact a.1) (by rw [e1]; exact a.2)).b
    rw [e1] at B
    obtain ⟨s1, s2⟩ := rs_step (L := L) c (by omega)
    have j := (DicB.join (by decide) (by decide) h.dic B.dic).told
    have j2 : SumB 4 (L + u.length) (2 ^ (L + u.length)) 1 (2 ^ (30 * (L + u.length))) (toldT (joinT T (saidT (treeT 8 u)))) := ⟨j.sm, j.lt, j.ln, fun p hp => (j.bd p hp).mono s2, Nat.le_trans j.sz s1⟩
    have tb : m_tree_by [eW.en u] = .ok ((treeT 8 u).en, .non) := tree_by_ok 8 u c a.1 (by have := a.1; omega)
    have sb : m_said_by [(treeT 8 u).en] = .ok (eSum.en (saidT (treeT 8 u)), .non) := said_by_ok 8 (treeT 8 u) (by have := a.1; omega) (by rw [e1]; exact a.1) (by rw [e1]; exact a.2)
    have m1 : 2 ^ (30 * L) ≤ 2 ^ 150 := Nat.pow_le_pow_right (by decide) (by omega)
    have m2 : mB u.length ≤ 2 ^ 75 := (mB5 a.1).1
    have S : Small 1 (2 ^ (30 * L) * mB u.length) := ⟨by decide, by decide, by
      have := Nat.mul_le_mul m1 m2
      rw [Nat.mul_one]
      exact Nat.lt_of_le_of_lt (Nat.mul_le_mul_left 100000 this) (by decide)⟩
    have S1 : Small 1 (2 ^ (30 * L)) := ⟨by decide, by decide, by
      rw [Nat.mul_one]
      exact Nat.lt_of_le_of_lt (Nat.mul_le_mul_left 100000 m1) (by decide)⟩
    have S2 : Small 1 (mB u.length) := ⟨by decide, by decide, by
      rw [Nat.mul_one]
      exact Nat.lt_of_le_of_lt (Nat.mul_le_mul_left 100000 m2) (by decide)⟩
    have hz : T.length * (saidT (treeT 8 u)).length ≤ 100000 := by
      have n1 : 2 ^ L ≤ 2 ^ 5 := Nat.pow_le_pow_right (by decide) (by omega)
      have n2 := (mB5 a.1).2
      exact Nat.le_trans (Nat.mul_le_mul (Nat.le_trans h.sz n1) (Nat.le_trans B.sz n2)) (by decide)
    have jt := joined_to_ok S (A := T) (B := saidT (treeT 8 u)) (fun p hp => ⟨by have := h.ln p hp; omega, S1.sz (h.bd p hp)⟩) (fun p hp => ⟨by have := B.ln p hp; omega, S2.sz (B.bd p hp)⟩) (fun p hp r hr => (h.bd p hp).mul (B.bd r hr)) hz
    have ts := told_sum_ok (joinT_good T (saidT (treeT 8 u)))
    have tk := tok_sum (toldT (joinT T (saidT (treeT 8 u))))
    have en : D.dct [] = dS [] := rfl
    obtain ⟨z2, z3, e⟩ := jt_loop y0 R (L + u.length) _ (some (eW.en u)) (some (dS (joinT T (saidT (treeT 8 u))))) j2 (fun v hv => hu v (List.mem_cons_of_mem _ hv)) (by omega)
    refine ⟨z2, z3, ?_⟩
    show _ = Out.ok (Fl.nx [y0, some (eSum.en (rowS R (toldT (joinT T (saidT (treeT 8 u)))))), z2, z3])
    rw [← e, List.map_cons]
    conv => lhs; unfold forL
    have ed : eSum.en (toldT (joinT T (saidT (treeT 8 u)))) = .lst ((toldT (joinT T (saidT (treeT 8 u)))).map eTerm.en) := rfl
    rw [ed] at ts ⊢
    generalize (toldT (joinT T (saidT (treeT 8 u)))).map eTerm.en = TS at *
    generalize dS (joinT T (saidT (treeT 8 u))) = S3 at *
    generalize eSum.en (saidT (treeT 8 u)) = ES at *
    generalize (treeT 8 u).en = TE at *
    generalize eSum.en T = ET at *
    generalize eW.en u = U at *
    simp (disch := first | assumption | decide | omega) only [runF, m0, sSeq, sSet, sIf, sRet, sRetN, sExpr, sSkip_ok, sSetA, sSetIx, sFor, sPar, sBind, sAug, eVar, eCon_ok, eOp2, eOp1, eCall, eCallM, eCallT, eTup, eLst, eArg, eIf, tVal, tNotF, tAndF, tOrF, eB, eAndF, eOrF, eNotF, eIxA, eIxO, eCatO, ixA_lst, ixA_tup, ixA_scr, eDNew, eDGet, eDGetO, eDPop, eSortK, eMM, aHoleQ, aHole, aNil_ok, aCons, oNone_ok, oSome, eSlice, eSliceL, iSeqA, iSeq, iRange, iArg, ePeek, tPeek, eOwnM, tYes_ok, bind_ok, bind_exc, bind_stuck, of_some, flatD, SW.gName, List.getD_cons_zero, List.getD_cons_succ, List.set_cons_zero, List.set_cons_succ, List.map_cons, List.map_nil, List.length_cons, List.length_nil, List.cons_append, List.nil_append, List.replicate, Nat.reduceAdd, Nat.reduceSub, addD_int, subD_int, negD_int, repD_int, modD_int, fdivD_int, ltA_int, leA_int, gtA_int, geA_int, eqD_int, neD_int, pow_10_18, pow_10_60, en, tb, sb, jt, ePeekL, ts, tk, if_true]
theorem joined_trees_ok {w : List Nat} (h : LetW 5 4 w) : m_joined_trees [eWs.en (rowW w)] = .ok (eSum.en (RS w), .non) := by
  obtain ⟨z2, z3, e⟩ := jt_loop (some (eWs.en (rowW w))) (rowW w) 0 [([], 1)] none none nil_b (fun u hu => row_in h hu) (by rw [(chr_all h).2.1]; have := h.1; omega)
  have it : itemsA (eWs.en (rowW w)) = some ((rowW w).map eW.en) := rfl
  have e0 : eSum.en [([], 1)] = .lst [.tup [.tup [], k_ONE]] := rfl
  rw [e0] at e
  have e : forL _ _ _ _ = Out.ok (Fl.nx [some (eWs.en (rowW w)), some (eSum.en (RS w)), z2, z3]) := e
  generalize (rowW w).map eW.en = RM at *
  generalize eWs.en (rowW w) = RW at *
  generalize eSum.en (RS w) = RE at *
  simp (disch := first | assumption | decide | omega) only [m_joined_trees, b_joined_trees, runF, m0, sSeq, sSet, sIf, sRet, sRetN, sExpr, sSkip_ok, sSetA, sSetIx, sFor, sPar, sBind, sAug, eVar, eCon_ok, eOp2, eOp1, eCall, eCallM, eCallT, eTup, eLst, eArg, eIf, tVal, tNotF, tAndF, tOrF, eB, eAndF, eOrF, eNotF, eIxA, eIxO, eCatO, ixA_lst, ixA_tup, ixA_scr, eDNew, eDGet, eDGetO, eDPop, eSortK, eMM, aHoleQ, aHole, aNil_ok, aCons, oNone_ok, oSome, eSlice, eSliceL, iSeqA, iSeq, iRange, iArg, ePeek, tPeek, eOwnM, tYes_ok, bind_ok, bind_exc, bind_stuck, of_some, flatD, SW.gName, List.getD_cons_zero, List.getD_cons_succ, List.set_cons_zero, List.set_cons_succ, List.map_cons, List.map_nil, List.length_cons, List.length_nil, List.cons_append, List.nil_append, List.replicate, Nat.reduceAdd, Nat.reduceSub, addD_int, subD_int, negD_int, repD_int, modD_int, fdivD_int, ltA_int, leA_int, gtA_int, geA_int, eqD_int, neD_int, pow_10_18, pow_10_60, it, e]

/-! a dict of a sum -/
theorem pairs_E : ∀ B : SumT, pairsD (B.map eTerm.en) = some (dE eRat.en B)
  | [] => rfl
  | p :: B => by
    rw [List.map_cons]
    unfold pairsD
    have e : pairD (eTerm.en p) = some (wk p.1, eRat.en p.2) := by
      show (keyT (eWord.en p.1)).map (fun k => (k, eRat.en p.2)) = _
      rw [keyT_word]
      rfl
    rw [e, pairs_E B]
    rfl
theorem putAll_E : ∀ B acc : SumT, putAll (dE eRat.en B) (dE eRat.en acc) = dE eRat.en (B.foldl (fun a p => setT a p.1 p.2) acc)
  | [], _ => rfl
  | p :: B, acc => by
    show putAll (dE eRat.en B) (putD (dE eRat.en acc) (wk p.1) (eRat.en p.2)) = _
    rw [putD_E, putAll_E B]
    rfl
theorem set_fresh : ∀ B acc : SumT, ((acc ++ B).map (·.1)).Nodup → B.foldl (fun a p => setT a p.1 p.2) acc = acc ++ B
  | [], acc, _ => by rw [List.append_nil]; rfl
  | p :: B, acc, h => by
    rw [List.foldl_cons]
    have hn : getT acc p.1 = none := getT_none.mpr fun hm => by
      rw [List.map_append, List.map_cons, List.nodup_append] at h
      exact h.2.2 p.1 hm p.1 List.mem_cons_self rfl
    have e : setT acc p.1 p.2 = acc ++ [p] := by unfold setT; rw [hn]; rfl
    rw [e, set_fresh B (acc ++ [p]) (by rw [List.append_assoc]; exact h), List.append_assoc]
    rfl
theorem dict_sum {B : SumT} (h : (B.map (·.1)).Nodup) : dictD (eSum.en B) = some (dS B) := by
  show (pairsD (B.map eTerm.en)).map _ = _
  rw [pairs_E]
  show some (D.dct (putAll (dE eRat.en B) (dE eRat.en []))) = _
  rw [putAll_E, set_fresh B [] h, List.nil_append]

/-! told by least words -/
theorem lenA_dS (l : SumT) : lenA [dS l] = some (.int ((l.length : Nat) : Int)) := by
  show some (D.int (((dE eRat.en l).length : Nat) : Int)) = _
  rw [dE_len]
def minW : Wd → List Wd → Wd
  | b, [] => b
  | b, d :: ds => minW (if rkLt d b = true then d else b) ds
theorem keyFn_rk (w : Wd) : keyFn m_rank (eWord.en w) = rkKey w := by
  unfold keyFn
  rw [rank_ok]
  dsimp only
  rw [rkE_py]
theorem minGo_w : ∀ (ws : List Wd) (b : Wd), minGo (keyFn m_rank) (eWord.en b) (ws.map eWord.en) = eWord.en (minW b ws)
  | [], b => rfl
  | d :: ws, b => by
    rw [List.map_cons]
    unfold minGo minW
    rw [keyFn_rk, keyFn_rk, rkKey_lt]
    cases h : rkLt d b with
    | true =>
      rw [if_pos rfl, if_pos rfl]
      exact minGo_w ws d
    | false =>
      rw [if_neg Bool.false_ne_true, if_neg Bool.false_ne_true]
      exact minGo_w ws b
theorem minW_mem : ∀ (ws : List Wd) (b : Wd), minW b ws ∈ b :: ws
  | [], b => by simp [minW]
  | d :: ws, b => by
    unfold minW
    have := minW_mem ws (if rkLt d b = true then d else b)
    rcases List.mem_cons.mp this with e | h
    · rw [e]
      split <;> simp
    · exact List.mem_cons_of_mem _ (List.mem_cons_of_mem _ h)
theorem rk_le_trans {a b c : Wd} (h1 : rkLt b a = false) (h2 : rkLt c b = false) : rkLt c a = false := by
  have := rkLe_trans a b c (by unfold rkLe; rw [h1]; rfl) (by unfold rkLe; rw [h2]; rfl)
  unfold rkLe at this
  simpa using this
theorem minW_le : ∀ (ws : List Wd) (b : Wd), ∀ v ∈ b :: ws, rkLt v (minW b ws) = false
  | [], b, v, hv => by
    rw [List.mem_singleton.mp hv]
    exact rkLt_self b
  | d :: ws, b, v, hv => by
    unfold minW
    cases h : rkLt d b with
    | true =>
      rw [if_pos rfl]
      have ih := minW_le ws d
      rcases List.mem_cons.mp hv with e | hv
      · rw [e]
        exact rk_le_trans (ih d (by simp)) (rkLt_asymm h)
      · exact ih v hv
    | false =>
      rw [if_neg Bool.false_ne_true]
      have ih := minW_le ws b
      rcases List.mem_cons.mp hv with e | hv
      · rw [e]; exact ih b (by simp)
      · rcases List.mem_cons.mp hv with e | hv
        · rw [e]; exact rk_le_trans (ih b (by simp)) h
        · exact ih v (List.mem_cons_of_mem _ hv)
theorem keyB_E (l : SumT) : (dE eRat.en l).map (fun p => keyB p.1) = (l.map (·.1)).map eWord.en := by
  have h1 := items_E l
  unfold dS at h1
  exact Option.some.inj h1
theorem min_ok {l : SumT} {p : Wd × Rat} {r : SumT} (e : l = p :: r) : minDK m_rank (dS l) = some (eWord.en (minW p.1 (r.map (·.1)))) := by
  show minK m_rank ((dE eRat.en l).map fun p => keyB p.1) = _
  rw [keyB_E, e, List.map_cons, List.map_cons]
  unfold minK
  have hk := keysOf_rk (m := m_rank) rank_ok (p.1 :: r.map (·.1))
  rw [List.map_cons] at hk
  dsimp only
  rw [hk]
  have e2 : ((p.1 :: r.map (·.1)).map fun w => (rkE w, rkKey w)).map (·.2) = (p.1 :: r.map (·.1)).map rkKey := by rw [List.map_map]; rfl
  dsimp only
  rw [e2, rk_sortable, if_pos rfl, minGo_w]
theorem of_nat {w : Wd} (h : ∀ x ∈ w, 0 ≤ x) : ofN (natW w) = w := by
  show (w.map Int.toNat).map Int.ofNat = w
  rw [List.map_map]
  conv => rhs; rw [← List.map_id w]
  exact List.map_congr_left fun x hx => Int.toNat_of_nonneg (h x hx)
theorem let_nat {w : Wd} (h5 : w.length ≤ 5) (h : ∀ x ∈ w, 0 ≤ x ∧ x < 4) : LetW 5 4 (natW w) := ⟨by unfold natW; rw [List.length_map]; exact h5, fun x hx => by
  obtain ⟨y, hy, rfl⟩ := List.mem_map.mp hx
  have := h y hy
  omega⟩
theorem en_nat {w : Wd} (h : ∀ x ∈ w, 0 ≤ x) : eWord.en w = eW.en (natW w) := by
  rw [eW_int]
  show eWord.en w = eWord.en (ofN (natW w))
  rw [of_nat h]
def rsW (f : Wd → Rat) (w : Wd) : Rat := rsF (rowW (natW w)) f
def eLR (p : Wd × Rat) : D := .tup [.tup ((rowW (natW p.1)).map eW.en), eRat.en p.2]
/-- all words -/
def allU : List Wd := (List.range 6).flatMap fun k => (lenW 4 k).map ofN
theorem allU_len : allU.length ≤ 1365 := by decide +kernel
theorem mem_allU {w : Wd} (h5 : w.length ≤ 5) (h : ∀ x ∈ w, 0 ≤ x ∧ x < 4) : w ∈ allU := by
  have hl := let_nat h5 h
  refine List.mem_flatMap.mpr ⟨(natW w).length, List.mem_range.mpr (by have := hl.1; omega), List.mem_map.mpr ⟨natW w, mem_lenW hl.2, of_nat fun x hx => (h x hx).1⟩⟩
theorem filter_lt {α : Type} {P P' : α → Bool} : ∀ {l : List α} {a : α}, a ∈ l → P a = true → P' a = false → (∀ x, P' x = true → P x = true) → (l.filter P').length < (l.filter P).length
  | [], _, h, _, _, _ => by cases h
  | x :: l, a, h, h1, h2, hs => by
    have hle : ∀ l : List α, (l.filter P').length ≤ (l.filter P).length := by
      intro l
      induction l with
      | nil => exact Nat.le_refl _
      | cons y l ih =>
        rw [List.filter_cons, List.filter_cons]
        cases hy : P' y with
        | true =>
          rw [if_pos rfl, if_pos (hs y hy)]
          simp only [List.length_cons]
          omega
        | false =>
          rw [if_neg Bool.false_ne_true]
          split
          · simp only [List.length_cons]; omega
          · exact ih
    rw [List.filter_cons, List.filter_cons]
    rcases List.mem_cons.mp h with e | h
    · rw [e] at h1 h2
      rw [h1, h2, if_pos rfl, if_neg Bool.false_ne_true, List.length_cons]
      have := hle l
      omega
    · have ih := filter_lt h h1 h2 hs
      cases hx : P' x with
      | true =>
        rw [if_pos rfl, if_pos (hs x hx)]
        simp only [List.length_cons]
        omega
      | false =>
        rw [if_neg Bool.false_ne_true]
        split
        · simp only [List.length_cons]; omega
        · exact ih
abbrev bTL : Rho → Out Fl := (sSeq (sSet 4 (ePeekT (eMinK m_rank (eVar 2)))) (sSeq (sSet 5 (eIxA 2 (eVar 4))) (sSeq (sSet 6 (eCall m_falling (aCons (eVar 4) aNil))) (sSeq (sExpr (eOwnM uAppend 3 (aCons (eTup (aCons (eArg tupleD (aCons (eVar 6) aNil)) (aCons (eVar 5) aNil))) aNil))) (sFor (iSeqA (eCall m_joined_trees (aCons (eVar 6) aNil))) (gTup 2 (gCons (gName 7) (gCons (gName 8) gNil))) (sExpr (eCallM m_put_to 0 2 (aHoleQ 2 (aCons (eVar 7) (aCons (eCall m_times (aCons (eCall m_contrary (aCons (eVar 5) aNil)) (aCons (eVar 8) aNil))) aNil))))))))))
abbrev bTI : Rho → Out Fl := (sExpr (eCallM m_put_to 0 2 (aHoleQ 2 (aCons (eVar 7) (aCons (eCall m_times (aCons (eCall m_contrary (aCons (eVar 5) aNil)) (aCons (eVar 8) aNil))) aNil)))))
theorem tl_in {N M a c : Nat} {y0 y1 y3 y4 y6 : Option D} {q : Rat} (n0 : 0 < N) (hN : N < 2 ^ a) (hM : M < 2 ^ a) (c6 : c ≤ 6) (a6 : a ≤ 5000000) : ∀ (B s : SumT) (k : Nat) (y7 y8 : Option D), AccL N M c 5 k s → k + B.length ≤ 1000000000 → (∀ t ∈ B, t.1.length ≤ 5 ∧ (∀ x ∈ t.1, 0 ≤ x ∧ x < (c : Int)) ∧ Bd N M (-q * t.2) ∧ m_times [eRat.en (-q), eRat.en t.2] = .ok (eRat.en (-q * t.2), .non)) →
    ∃ z7 z8, forL (gTup 2 (gCons (gName 7) (gCons (gName 8) gNil))) bTI (B.map eTerm.en) [y0, y1, some (dS s), y3, y4, some (eRat.en q), y6, y7, y8] = .ok (.nx [y0, y1, some (dS (addS s B (-q))), y3, y4, some (eRat.en q), y6, z7, z8])
  | [], s, k, y7, y8, h, _, _ => ⟨y7, y8, rfl⟩
  | r :: B, s, k, y7, y8, h, hk, hr => by
    obtain ⟨r1, r2, r3, r4⟩ := hr r (by simp)
    rw [List.length_cons] at hk
    have p1 : m_put_to [dS s, eWord.en r.1, eRat.en (-q * r.2)] = .ok (.non, dS (addT s r.1 (-q * r.2))) := put_to_g (h.sz n0 hN hM (by omega) r.1) (bd_sz2 r3 n0 hN hM) (by omega) (Nat.le_trans (h.len (Nat.le_refl _) c6) (by decide))
    obtain ⟨z7, z8, e⟩ := tl_in (y0 := y0) (y1 := y1) (y3 := y3) (y4 := y4) (y6 := y6) n0 hN hM c6 a6 B (addT s r.1 (-q * r.2)) (k + 1) (some (eWord.en r.1)) (some (eRat.en r.2)) (h.add n0 r3 r1 r2) (by omega) (fun x hx => hr x (List.mem_cons_of_mem _ hx))
    refine ⟨z7, z8, ?_⟩
    show _ = Out.ok (Fl.nx [y0, y1, some (dS (addS (addT s r.1 (-q * r.2)) B (-q))), y3, y4, some (eRat.en q), y6, z7, z8])
    rw [← e, List.map_cons]
    conv => lhs; unfold forL
    have et : eTerm.en r = .tup [eWord.en r.1, eRat.en r.2] := rfl
    have gt : ∀ (a b : D) (ρ : Rho), gTup 2 (gCons (gName 7) (gCons (gName 8) gNil)) (.tup [a, b]) ρ = some ((ρ.set 7 (some a)).set 8 (some b)) := fun _ _ _ => rfl
    have nc := contrary_ok q
    rw [et]
    generalize dS (addT s r.1 (-q * r.2)) = S2 at *
    generalize dS s = S1 at *
    generalize eWord.en r.1 = W1 at *
    generalize eRat.en (-q * r.2) = Q2 at *
    generalize eRat.en r.2 = Q1 at *
    generalize eRat.en (-q) = Q3 at *
    generalize eRat.en q = Q0 at *
    simp (disch := first | assumption | decide | omega) only [bTI, runF, m0, sSeq, sSet, sIf, sRet, sRetN, sExpr, sSkip_ok, sSetA, sSetIx, sFor, sPar, sBind, sAug, eVar, eCon_ok, eOp2, eOp1, eCall, eCallM, eCallT, eTup, eLst, eArg, eIf, tVal, tNotF, tAndF, tOrF, eB, eAndF, eOrF, eNotF, eIxA, eIxO, eCatO, ixA_lst, ixA_tup, ixA_scr, eDNew, eDGet, eDGetO, eDPop, eSortK, eMM, aHoleQ, aHole, aNil_ok, aCons, oNone_ok, oSome, eSlice, eSliceL, iSeqA, iSeq, iRange, iArg, ePeek, tPeek, eOwnM, tYes_ok, bind_ok, bind_exc, bind_stuck, of_some, flatD, SW.gName, List.getD_cons_zero, List.getD_cons_succ, List.set_cons_zero, List.set_cons_succ, List.map_cons, List.map_nil, List.length_cons, List.length_nil, List.cons_append, List.nil_append, List.replicate, Nat.reduceAdd, Nat.reduceSub, addD_int, subD_int, negD_int, repD_int, modD_int, fdivD_int, ltA_int, leA_int, gtA_int, geA_int, eqD_int, neD_int, pow_10_18, pow_10_60, gt, nc, r4, p1, Option.getD_some]
/-- less so many times the row of its least word -/
theorem less_row {b : Nat} {l : SumT} (h : AccL 2520 (2 ^ b) 4 5 1 l) {w : Wd} (hw : w ∈ l.map (·.1)) (hmin : ∀ v ∈ l.map (·.1), rkLt v w = false) :
    AccL 2520 (2 ^ (b + 156)) 4 5 1 (addS l (RS (natW w)) (-(coef l w))) ∧ (∀ p ∈ addS l (RS (natW w)) (-(coef l w)), rkLt w p.1 = true) ∧ ∀ t ∈ RS (natW w), t.1.length ≤ 5 ∧ (∀ x ∈ t.1, 0 ≤ x ∧ x < ((4 : Nat) : Int)) ∧ Bd 2520 (2 ^ (b + 150)) (-(coef l w) * t.2) := by
  obtain ⟨p0, hp0, rfl⟩ := List.mem_map.mp hw
  have hwd := h.wd p0 hp0
  have hw4 : ∀ x ∈ p0.1, 0 ≤ x ∧ x < 4 := hwd.2
  have hlet := let_nat hwd.1 hw4
  have hof := of_nat fun x hx => (hw4 x hx).1
  have B := RS_b hlet
  have T := tri_RS hlet
  have hq : Bd 2520 (2 ^ b) (coef l p0.1) := by
    have := h.bd p0.1
    rw [Nat.one_mul] at this
    exact this
  have ht : ∀ t ∈ RS (natW p0.1), t.1.length ≤ 5 ∧ (∀ x ∈ t.1, 0 ≤ x ∧ x < ((4 : Nat) : Int)) ∧ Bd 2520 (2 ^ (b + 150)) (-(coef l p0.1) * t.2) := fun t ht => by
    have b1 := hq.neg.mul (B.bd t ht)
    rw [Nat.mul_one, ← Nat.pow_add] at b1
    exact ⟨B.ln t ht, B.lt t ht, b1⟩
  have h150 : AccL 2520 (2 ^ (b + 150)) 4 5 1 l := h.top (by rw [Nat.one_mul, Nat.one_mul]; exact Nat.pow_le_pow_right (by decide) (by omega)) (Nat.le_refl _)
  have ac := acc_all (by decide) (scS (-(coef l p0.1)) (RS (natW p0.1))) l 1 h150 fun t ht' => by
    obtain ⟨p, hp, rfl⟩ := mem_scS ht'
    exact ht p hp
  rw [scS_len] at ac
  have sz := B.sz
  refine ⟨(ac.up (k2 := 64) (by omega)).top (by
    rw [Nat.one_mul, show (64 : Nat) = 2 ^ 6 by decide, ← Nat.pow_add]
    exact Nat.pow_le_pow_right (by decide) (by omega)) (Nat.le_refl _), fun p hp => ?_, ht⟩
  have g : Good (addS l (RS (natW p0.1)) (-(coef l p0.1))) := ac.good
  have hne : coef (addS l (RS (natW p0.1)) (-(coef l p0.1))) p.1 ≠ 0 := by
    rw [coef_at g hp]
    exact g.nz p hp
  have ce : coef (addS l (RS (natW p0.1)) (-(coef l p0.1))) p.1 = coef l p.1 + -(coef l p0.1) * coef (RS (natW p0.1)) p.1 := by
    rw [← lin_ind g.nd, lin_addS h.good, lin_ind h.good.nd, lin_ind T.g.nd]
  cases hlt : rkLt p0.1 p.1 with
  | true => rfl
  | false =>
    refine absurd ?_ hne
    rw [ce]
    by_cases e : p.1 = p0.1
    · have one := T.one
      rw [hof] at one
      rw [e, one]
      grind
    · have c1 : coef l p.1 = 0 := coef_not fun z => e (rkLt_total (hmin p.1 z) hlt)
      have c2 : coef (RS (natW p0.1)) p.1 = 0 := coef_not fun z => by
        obtain ⟨t, ht', et⟩ := List.mem_map.mp z
        obtain ⟨v, ev, lv, cv⟩ := T.up t ht'
        rcases cv with cv | cv
        · refine e ?_
          rw [← et, ev, cv, hof]
        · have : rkLt p0.1 p.1 = true := by
            rw [← et, ev, ← hof]
            unfold rkLt
            rw [List.length_map, List.length_map, if_pos lv.symm, ltN_cast]
            exact cv
          rw [this] at hlt
          cases hlt
      rw [c1, c2]
      grind
/-- what is told: falling rows of least words, and their numbers -/
structure TL (b : Nat) (l X : SumT) : Prop where
  sm : Sm X
  wd : ∀ p ∈ X, p.1.length ≤ 5 ∧ ∀ x ∈ p.1, 0 ≤ x ∧ x < 4
  e : ∀ f, linS f l = linS (rsW f) X
  bd : ∀ p ∈ X, Bd 2520 (2 ^ b) p.2
theorem append_row {l : List D} {d : D} (h : l.length < 100000) : uAppend l [d] = some (.non, l ++ [d]) := by
  show (if l.length < sizeLine then some (D.non, l ++ [d]) else none) = _
  rw [if_pos (Nat.lt_trans h (by decide))]
theorem tl_loop {y0 y1 : Option D} : ∀ (n b : Nat) (l X : SumT) (P : Wd → Bool) (y4 y5 y6 y7 y8 : Option D), AccL 2520 (2 ^ b) 4 5 1 l → (∀ u v, P u = true → rkLt u v = true → P v = true) → (∀ p ∈ l, P p.1 = true) → (allU.filter P).length < n → b + 160 * n ≤ 2000000 → X.length + n ≤ 50000 →
    ∃ (Z : SumT) (z4 z5 z6 z7 z8 : Option D), whileL (tPeek (tVal (eOp2 gtA (eArg lenA (aCons (eVar 2) aNil)) (eCon (.int 0))))) bTL n [y0, y1, some (dS l), some (.lst (X.map eLR)), y4, y5, y6, y7, y8] = .ok (.nx [y0, y1, some (dS []), some (.lst ((X ++ Z).map eLR)), z4, z5, z6, z7, z8]) ∧ TL (b + 160 * n) l Z ∧ ∀ p ∈ Z, P p.1 = true
  | 0, _, _, _, _, _, _, _, _, _, _, _, _, h, _, _ => absurd h (Nat.not_lt_zero _)
  | n + 1, b, [], X, P, y4, y5, y6, y7, y8, h, hP, hl, hn, hb, hX => by
    refine ⟨[], y4, y5, y6, y7, y8, ?_, ⟨⟨List.Pairwise.nil, by simp⟩, by simp, fun f => rfl, by simp⟩, by simp⟩
    rw [List.append_nil]
    unfold whileL
    have ln : lenA [dS []] = some (.int 0) := lenA_dS []
    have g0 : gtA (.int 0) (.int 0) = some (.bl false) := rfl
    generalize dS [] = S0 at *
    generalize X.map eLR = XM at *
    simp (disch := first | assumption | decide | omega) only [runF, m0, sSeq, sSet, sIf, sRet, sRetN, sExpr, sSkip_ok, sSetA, sSetIx, sFor, sPar, sBind, sAug, eVar, eCon_ok, eOp2, eOp1, eCall, eCallM, eCallT, eTup, eLst, eArg, eIf, tVal, tNotF, tAndF, tOrF, eB, eAndF, eOrF, eNotF, eIxA, eIxO, eCatO, ixA_lst, ixA_tup, ixA_scr, eDNew, eDGet, eDGetO, eDPop, eSortK, eMM, aHoleQ, aHole, aNil_ok, aCons, oNone_ok, oSome, eSlice, eSliceL, iSeqA, iSeq, iRange, iArg, ePeek, tPeek, eOwnM, tYes_ok, bind_ok, bind_exc, bind_stuck, of_some, flatD, SW.gName, List.getD_cons_zero, List.getD_cons_succ, List.set_cons_zero, List.set_cons_succ, List.map_cons, List.map_nil, List.length_cons, List.length_nil, List.cons_append, List.nil_append, List.replicate, Nat.reduceAdd, Nat.reduceSub, addD_int, subD_int, negD_int, repD_int, modD_int, fdivD_int, ltA_int, leA_int, gtA_int, geA_int, eqD_int, neD_int, pow_10_18, pow_10_60, ln, g0, Bool.false_eq_true, if_false]
  | n + 1, b, p :: r, X, P, y4, y5, y6, y7, y8, h, hP, hl, hn, hb, hX => by
    have hm := minW_mem (r.map (·.1)) p.1
    have hle := minW_le (r.map (·.1)) p.1
    have mk := min_ok (l := p :: r) rfl
    generalize hw : minW p.1 (r.map (·.1)) = w at hm hle mk
    have hm : w ∈ (p :: r).map (·.1) := by rw [List.map_cons]; exact hm
    have hle : ∀ v ∈ (p :: r).map (·.1), rkLt v w = false := fun v hv => hle v (by rw [List.map_cons] at hv; exact hv)
    obtain ⟨ac, up, ht⟩ := less_row h hm hle
    obtain ⟨t0, ht0, et0⟩ := List.mem_map.mp hm
    have hwd : w.length ≤ 5 ∧ ∀ x ∈ w, 0 ≤ x ∧ x < 4 := by
      rw [← et0]
      exact h.wd t0 ht0
    have hPw : P w = true := by rw [← et0]; exact hl t0 ht0
    have hlet := let_nat hwd.1 hwd.2
    have hq0 : coef (p :: r) w ≠ 0 := (coef_mem h.good).mp hm
    have hqb : Bd 2520 (2 ^ b) (coef (p :: r) w) := by
      have := h.bd w
      rw [Nat.one_mul] at this
      exact this
    have hfl : (allU.filter fun u => rkLt w u).length < n := by
      have := filter_lt (P := P) (P' := fun u => rkLt w u) (mem_allU hwd.1 hwd.2) hPw (rkLt_self w) (fun x hx => hP w x hPw hx)
      exact Nat.lt_of_lt_of_le this (Nat.le_of_lt_succ hn)
    have fo : m_falling [eWord.en w] = .ok (eWs.en (rowW (natW w)), .non) := by
      rw [en_nat fun x hx => (hwd.2 x hx).1]
      exact falling_ok (natW w) hlet.1
    have jt := joined_trees_ok hlet
    have sRS : ∀ t ∈ RS (natW w), m_times [eRat.en (-(coef (p :: r) w)), eRat.en t.2] = .ok (eRat.en (-(coef (p :: r) w) * t.2), .non) := fun t ht' => by
      have s1 := bd_sz2 (a := b + 200) hqb.neg (by decide) (Nat.lt_of_lt_of_le (show 2520 < 2 ^ 12 by decide) (Nat.pow_le_pow_right (by decide) (by omega))) (Nat.pow_lt_pow_right (by decide) (by omega))
      have s2 := bd_sz2 (a := b + 200) ((RS_b hlet).bd t ht') (by decide) (Nat.one_lt_two_pow (by omega)) (Nat.pow_lt_pow_right (by decide) (by omega))
      exact times_ok s1 s2 (by omega)
    have h150 : AccL 2520 (2 ^ (b + 150)) 4 5 1 (p :: r) := h.top (by rw [Nat.one_mul, Nat.one_mul]; exact Nat.pow_le_pow_right (by decide) (by omega)) (Nat.le_refl _)
    have szR := (RS_b hlet).sz
    obtain ⟨z7, z8, ei⟩ := tl_in (y0 := y0) (y1 := y1) (y3 := some (.lst ((X ++ [(w, coef (p :: r) w)]).map eLR))) (y4 := some (eWord.en w)) (y6 := some (eWs.en (rowW (natW w)))) (q := coef (p :: r) w) (a := b + 200) (by decide) (Nat.lt_of_lt_of_le (show 2520 < 2 ^ 12 by decide) (Nat.pow_le_pow_right (by decide) (by omega))) (Nat.pow_lt_pow_right (by decide) (show b + 150 < b + 200 by omega)) (by decide) (by omega) (RS (natW w)) (p :: r) 1 y7 y8 h150 (by omega) (fun t ht' => ⟨(ht t ht').1, (ht t ht').2.1, (ht t ht').2.2, sRS t ht'⟩)
    have ix : (keyT (eWord.en w)).bind (valD (dE eRat.en (p :: r))) = some (eRat.en (coef (p :: r) w)) := by
      have kw : keyT (eWord.en w) = some (wk w) := keyT_word w
      rw [kw]
      show valD (dE eRat.en (p :: r)) (wk w) = _
      rw [valD_E]
      unfold coef
      cases hg : getT (p :: r) w with
      | none => exact absurd (getT_none.mp hg) (fun z => z hm)
      | some q => rfl
    obtain ⟨Z, z4, z5, z6, z7', z8', e, tl, hZ⟩ := tl_loop n (b + 156) (addS (p :: r) (RS (natW w)) (-(coef (p :: r) w))) (X ++ [(w, coef (p :: r) w)]) (fun u => rkLt w u) (some (eWord.en w)) (some (eRat.en (coef (p :: r) w))) (some (eWs.en (rowW (natW w)))) z7 z8 ac (fun u v h1 h2 => rkLt_trans h1 h2) up hfl (by omega) (by rw [List.length_append, List.length_singleton]; omega)
    refine ⟨(w, coef (p :: r) w) :: Z, z4, z5, z6, z7', z8', ?_, ⟨⟨?_, ?_⟩, ?_, ?_, ?_⟩, ?_⟩
    · have ea : X ++ (w, coef (p :: r) w) :: Z = (X ++ [(w, coef (p :: r) w)]) ++ Z := by rw [List.append_assoc]; rfl
      rw [ea, ← e]
      conv => lhs; unfold whileL
      have ln := lenA_dS (p :: r)
      have g1 : gtA (.int (((p :: r).length : Nat) : Int)) (.int 0) = some (.bl true) := by
        rw [gtA_int, decide_eq_true (by rw [List.length_cons]; omega)]
      have tk : tokD (eWord.en w) = true := tok_w w
      have td : tupleD [eWs.en (rowW (natW w))] = some (.tup ((rowW (natW w)).map eW.en)) := rfl
      have ap := append_row (l := X.map eLR) (d := eLR (w, coef (p :: r) w)) (by rw [List.length_map]; omega)
      have er : eLR (w, coef (p :: r) w) = .tup [.tup ((rowW (natW w)).map eW.en), eRat.en (coef (p :: r) w)] := rfl
      have em : X.map eLR ++ [eLR (w, coef (p :: r) w)] = (X ++ [(w, coef (p :: r) w)]).map eLR := by rw [List.map_append]; rfl
      rw [em, er] at ap
      have it : itemsA (eSum.en (RS (natW w))) = some ((RS (natW w)).map eTerm.en) := rfl
      have ed : dS (p :: r) = .dct (dE eRat.en (p :: r)) := rfl
      have d0 : (0 : Int) < ((r.length + 1 : Nat) : Int) := by omega
      have mk' : minDK m_rank (.dct (dE eRat.en (p :: r))) = some (eWord.en w) := mk
      rw [ed] at ln ei ⊢
      generalize (X ++ [(w, coef (p :: r) w)]).map eLR = XM2 at *
      generalize X.map eLR = XM at *
      generalize (RS (natW w)).map eTerm.en = RT at *
      generalize eSum.en (RS (natW w)) = RE at *
      generalize dS (addS (p :: r) (RS (natW w)) (-(coef (p :: r) w))) = S2 at *
      generalize (rowW (natW w)).map eW.en = RM at *
      generalize eWs.en (rowW (natW w)) = RW at *
      generalize eRat.en (coef (p :: r) w) = QC at *
      generalize eWord.en w = WE at *
      generalize dE eRat.en (p :: r) = DE at *
      simp (maxSteps := 2000000) (disch := first | assumption | decide | omega) only [bTL, runF, m0, sSeq, sSet, sIf, sRet, sRetN, sExpr, sSkip_ok, sSetA, sSetIx, sFor, sPar, sBind, sAug, eVar, eCon_ok, eOp2, eOp1, eCall, eCallM, eCallT, eTup, eLst, eArg, eIf, tVal, tNotF, tAndF, tOrF, eB, eAndF, eOrF, eNotF, eIxA, eIxO, eCatO, ixA_lst, ixA_tup, ixA_scr, eDNew, eDGet, eDGetO, eDPop, eSortK, eMM, aHoleQ, aHole, aNil_ok, aCons, oNone_ok, oSome, eSlice, eSliceL, iSeqA, iSeq, iRange, iArg, ePeek, tPeek, eOwnM, tYes_ok, bind_ok, bind_exc, bind_stuck, of_some, flatD, SW.gName, List.getD_cons_zero, List.getD_cons_succ, List.set_cons_zero, List.set_cons_succ, List.map_cons, List.map_nil, List.length_cons, List.length_nil, List.cons_append, List.nil_append, List.replicate, Nat.reduceAdd, Nat.reduceSub, addD_int, subD_int, negD_int, repD_int, modD_int, fdivD_int, ltA_int, leA_int, gtA_int, geA_int, eqD_int, neD_int, pow_10_18, pow_10_60, ln, g1, decide_eq_true d0, if_true, ePeekT, eMinK, mk', tk, ix, fo, td, ap, jt, it, ei]
    · rw [List.map_cons]
      refine List.pairwise_cons.mpr ⟨fun v hv => ?_, tl.sm.up⟩
      obtain ⟨t, ht', rfl⟩ := List.mem_map.mp hv
      exact hZ t ht'
    · intro t ht'
      rcases List.mem_cons.mp ht' with e1 | h1
      · rw [e1]; exact hq0
      · exact tl.sm.nz t h1
    · intro t ht'
      rcases List.mem_cons.mp ht' with e1 | h1
      · rw [e1]; exact hwd
      · exact tl.wd t h1
    · intro f
      show linS f (p :: r) = coef (p :: r) w * rsW f w + linS (rsW f) Z
      rw [← tl.e f, lin_addS h.good, lin_RS]
      show _ = coef (p :: r) w * rsF (rowW (natW w)) f + (linS f (p :: r) + -(coef (p :: r) w) * rsF (rowW (natW w)) f)
      grind
    · intro t ht'
      rcases List.mem_cons.mp ht' with e1 | h1
      · rw [e1]
        exact hqb.mono (Nat.pow_le_pow_right (by decide) (by omega))
      · exact (tl.bd t h1).mono (Nat.pow_le_pow_right (by decide) (by omega))
    · intro t ht'
      rcases List.mem_cons.mp ht' with e1 | h1
      · rw [e1]; exact hPw
      · exact hP w t.1 hPw (hZ t h1)
theorem told_by_ok {c b : Nat} (c1 : 1 ≤ c) (c4 : c ≤ 4) (hb : b ≤ 1000) {A : SumT} (h : AccL 2520 (2 ^ b) c 5 1 A) (s : Sm A) : ∃ X, m_told_by_least [.int ((c : Nat) : Int), eSum.en A] = .ok (.lst (X.map eLR), .non) ∧ TL 400000 A X := by
  have e1 := check_count_c c1 c4
  have e2 : m_check_sum [.int ((c : Nat) : Int), eSum.en A] = .ok (.non, .non) := check_sum_ok ⟨s, fun p hp => h.wd p hp⟩
  have e3 : m_gathered [eSum.en A] = .ok (dS A, .non) := by
    have e := dict_sum h.good.nd
    simp (disch := first | assumption | decide | omega) only [m_gathered, b_gathered, runF, m0, sSeq, sSet, sIf, sRet, sRetN, sExpr, sSkip_ok, sSetA, sSetIx, sFor, sPar, sBind, sAug, eVar, eCon_ok, eOp2, eOp1, eCall, eCallM, eCallT, eTup, eLst, eArg, eIf, tVal, tNotF, tAndF, tOrF, eB, eAndF, eOrF, eNotF, eIxA, eIxO, eCatO, ixA_lst, ixA_tup, ixA_scr, eDNew, eDGet, eDGetO, eDPop, eSortK, eMM, aHoleQ, aHole, aNil_ok, aCons, oNone_ok, oSome, eSlice, eSliceL, iSeqA, iSeq, iRange, iArg, ePeek, tPeek, eOwnM, tYes_ok, bind_ok, bind_exc, bind_stuck, of_some, flatD, SW.gName, List.getD_cons_zero, List.getD_cons_succ, List.set_cons_zero, List.set_cons_succ, List.map_cons, List.map_nil, List.length_cons, List.length_nil, List.cons_append, List.nil_append, List.replicate, Nat.reduceAdd, Nat.reduceSub, addD_int, subD_int, negD_int, repD_int, modD_int, fdivD_int, ltA_int, leA_int, gtA_int, geA_int, eqD_int, neD_int, pow_10_18, pow_10_60, eDictL, e]
  obtain ⟨Z, z4, z5, z6, z7, z8, e, tl, _⟩ := tl_loop (y0 := some (.int ((c : Nat) : Int))) (y1 := some (eSum.en A)) 2000 b A [] (fun _ => true) none none none none none (h.top (Nat.le_refl _) c4) (fun _ _ _ _ => rfl) (fun _ _ => rfl) (by
    have := allU_len
    have h1 := List.length_filter_le (fun _ : Wd => true) allU
    omega) (by omega) (by decide)
  refine ⟨Z, ?_, ⟨tl.sm, tl.wd, tl.e, fun p hp => (tl.bd p hp).mono (Nat.pow_le_pow_right (by decide) (by omega))⟩⟩
  rw [List.nil_append, List.map_nil] at e
  unfold bTL at e
  generalize Z.map eLR = ZM at *
  generalize dS [] = S1 at *
  generalize dS A = S0 at *
  generalize eSum.en A = EA at *
  simp (disch := first | assumption | decide | omega) only [m_told_by_least, b_told_by_least, runF, m0, sSeq, sSet, sIf, sRet, sRetN, sExpr, sSkip_ok, sSetA, sSetIx, sFor, sPar, sBind, sAug, eVar, eCon_ok, eOp2, eOp1, eCall, eCallM, eCallT, eTup, eLst, eArg, eIf, tVal, tNotF, tAndF, tOrF, eB, eAndF, eOrF, eNotF, eIxA, eIxO, eCatO, ixA_lst, ixA_tup, ixA_scr, eDNew, eDGet, eDGetO, eDPop, eSortK, eMM, aHoleQ, aHole, aNil_ok, aCons, oNone_ok, oSome, eSlice, eSliceL, iSeqA, iSeq, iRange, iArg, ePeek, tPeek, eOwnM, tYes_ok, bind_ok, bind_exc, bind_stuck, of_some, flatD, SW.gName, List.getD_cons_zero, List.getD_cons_succ, List.set_cons_zero, List.set_cons_succ, List.map_cons, List.map_nil, List.length_cons, List.length_nil, List.cons_append, List.nil_append, List.replicate, Nat.reduceAdd, Nat.reduceSub, addD_int, subD_int, negD_int, repD_int, modD_int, fdivD_int, ltA_int, leA_int, gtA_int, geA_int, eqD_int, neD_int, pow_10_18, pow_10_60, sWhile, e1, e2, e3, e]
/-- two tellings of one sum are one -/
theorem tl_one {X Y : SumT} (hX : Sm X) (hY : Sm Y) (wX : ∀ p ∈ X, p.1.length ≤ 5 ∧ ∀ x ∈ p.1, 0 ≤ x ∧ x < 4) (wY : ∀ p ∈ Y, p.1.length ≤ 5 ∧ ∀ x ∈ p.1, 0 ≤ x ∧ x < 4) (h : ∀ f, linS (rsW f) X = linS (rsW f) Y) : X = Y := by
  have gz := fun f => lin_subT f Y X hX.good
  generalize hZ : subT' X Y = Z at gz
  have g := (gz fun _ => 0).1
  have wZ : ∀ p ∈ Z, p.1.length ≤ 5 ∧ ∀ x ∈ p.1, 0 ≤ x ∧ x < 4 := fun p hp => by
    rw [← hZ] at hp
    rcases subT_mem hp with h | ⟨q, hq, e⟩ | ⟨q, hq, e⟩
    · exact wX p h
    · rw [e]; exact wY q hq
    · rw [e]; exact wX q hq
  have z0 : Z = [] := by
    cases hz : Z with
    | nil => rfl
    | cons p r =>
      exfalso
      have hm := minW_mem (r.map (·.1)) p.1
      have hle := minW_le (r.map (·.1)) p.1
      generalize minW p.1 (r.map (·.1)) = w at hm hle
      have hm : w ∈ Z.map (·.1) := by rw [hz, List.map_cons]; exact hm
      have hle : ∀ v ∈ Z.map (·.1), rkLt v w = false := fun v hv => hle v (by rw [hz, List.map_cons] at hv; exact hv)
      have key : linS (rsW (ind w)) Z = coef Z w := by
        rw [← lin_ind g.nd]
        refine lin_congr fun q hq => ?_
        have hq4 := wZ q hq
        have hlet := let_nat hq4.1 hq4.2
        have hof := of_nat fun x hx => (hq4.2 x hx).1
        have T := tri_RS hlet
        show rsF (rowW (natW q.1)) (ind w) = ind w q.1
        rw [← lin_RS, lin_ind T.g.nd]
        by_cases e : q.1 = w
        · have one := T.one
          rw [hof] at one
          rw [← e, one]
          unfold ind
          rw [if_pos rfl]
        · have c0 : coef (RS (natW q.1)) w = 0 := coef_not fun z => by
            obtain ⟨t, ht, et⟩ := List.mem_map.mp z
            obtain ⟨v, ev, lv, cv⟩ := T.up t ht
            rcases cv with cv | cv
            · exact e (by rw [← et, ev, cv, hof])
            · have : rkLt q.1 w = true := by
                rw [← et, ev, ← hof]
                unfold rkLt
                rw [List.length_map, List.length_map, if_pos lv.symm, ltN_cast]
                exact cv
              rw [hle q.1 (List.mem_map.mpr ⟨q, hq, rfl⟩)] at this
              cases this
          rw [c0]
          unfold ind
          rw [if_neg e]
      have h0 := (gz (rsW (ind w))).2
      rw [key, h] at h0
      exact (coef_mem g).mp hm (by rw [h0]; grind)
  refine sm_eq hX hY fun f => ?_
  have := (gz f).2
  rw [z0] at this
  have e0 : linS f [] = 0 := rfl
  rw [e0] at this
  grind

/-! combed sums: what the law works out -/
theorem joinT_mem {A B : SumT} {p : Wd × Rat} (h : p ∈ joinT A B) : ∃ u ∈ A, ∃ v ∈ B, p.1 = u.1 ++ v.1 := by
  rcases mem_addAll h with ⟨t, ht, e⟩ | h
  · obtain ⟨u, hu, v, hv, rfl⟩ := mem_join ht
    exact ⟨u, hu, v, hv, e⟩
  · cases h
theorem say_c {c : Nat} : ∀ t : Tr, (∀ n ∈ lets t, n < c) → ∀ p ∈ sayD t, ∀ x ∈ p.1, 0 ≤ x ∧ x < (c : Int)
  | .leaf n, h, p, hp, x, hx => by
    rw [show sayD (.leaf n) = [([((n : Nat) : Int)], 1)] from rfl] at hp
    rw [List.mem_singleton.mp hp] at hx
    rw [List.mem_singleton.mp hx]
    have := h n List.mem_cons_self
    omega
  | .node l r, h, p, hp, x, hx => by
    have il := say_c l fun n hn => h n (List.mem_append_left _ hn)
    have ir := say_c r fun n hn => h n (List.mem_append_right _ hn)
    have k1 : ∀ q ∈ joinT (sayD l) (sayD r), ∀ x ∈ q.1, 0 ≤ x ∧ x < (c : Int) := fun q hq x hx => by
      obtain ⟨u, hu, v, hv, e⟩ := joinT_mem hq
      rw [e] at hx
      rcases List.mem_append.mp hx with h | h
      · exact il u hu x h
      · exact ir v hv x h
    have k2 : ∀ q ∈ joinT (sayD r) (sayD l), ∀ x ∈ q.1, 0 ≤ x ∧ x < (c : Int) := fun q hq x hx => by
      obtain ⟨u, hu, v, hv, e⟩ := joinT_mem hq
      rw [e] at hx
      rcases List.mem_append.mp hx with h | h
      · exact ir u hu x h
      · exact il v hv x h
    rcases subT_mem (show p ∈ subT' (joinT (sayD l) (sayD r)) (joinT (sayD r) (sayD l)) from hp) with h | ⟨q, hq, e⟩ | ⟨q, hq, e⟩
    · exact k1 p h x hx
    · rw [e] at hx
      exact k2 q hq x hx
    · rw [e] at hx
      exact k1 q hq x hx
/-! sums told by least words: what the law works out -/
def RD (w : List Nat) : SumT := rowDD (rowW w) [([], 1)]
theorem least_said {u : List Nat} (h : LetW 5 4 u) (h1 : 1 ≤ u.length) : (lets (treeT 8 u)).length ≤ 5 ∧ ∀ x ∈ lets (treeT 8 u), x < 4 := by
  obtain ⟨e1, _⟩ := least_lets h h1
  rw [e1]
  exact ⟨h.1, h.2⟩
theorem lin_RD (f : Wd → Rat) {w : List Nat} (h : LetW 5 4 w) : linS f (RD w) = rsF (rowW w) f := by
  unfold RD
  rw [lin_rowD f _ _ fun u hu => least_said (row_in h hu).1 (row_in h hu).2.2]
  show 1 * rsF (rowW w) (fun y => f ([] ++ y)) + 0 = _
  have : (fun y : Wd => f ([] ++ y)) = f := rfl
  rw [this]
  grind
theorem rd_b : ∀ (R : List (List Nat)) (L : Nat) (T : SumT), DicB 4 L (2 ^ L) 1 (2 ^ (30 * L)) T → (∀ u ∈ R, LetW 5 4 u ∧ leastT u = true ∧ 1 ≤ u.length) → L + R.flatten.length ≤ 5 → DicB 4 (L + R.flatten.length) (2 ^ (L + R.flatten.length)) 1 (2 ^ (30 * (L + R.flatten.length))) (rowDD R T)
  | [], L, T, h, _, _ => by rw [List.flatten_nil]; exact h
  | u :: R, L, T, h, hu, h5 => by
    obtain ⟨a, _, c⟩ := hu u (by simp)
    rw [List.flatten_cons, List.length_append] at h5
    obtain ⟨e1, _⟩ := least_lets a c
    have B := say_b (treeT 8 u) (by rw [e1]; exact a.1) (by rw [e1]; exact a.2)
    rw [e1] at B
    obtain ⟨s1, s2⟩ := rs_step (L := L) c (by omega)
    have j := DicB.join (by decide) (by decide) h B
    have j2 : DicB 4 (L + u.length) (2 ^ (L + u.length)) 1 (2 ^ (30 * (L + u.length))) (joinT T (sayD (treeT 8 u))) := ⟨j.gd, j.lt, j.ln, fun p hp => (j.bd p hp).mono s2, Nat.le_trans j.sz s1⟩
    have := rd_b R (L + u.length) _ j2 (fun v hv => hu v (List.mem_cons_of_mem _ hv)) (by omega)
    rw [List.flatten_cons, List.length_append, ← Nat.add_assoc]
    exact this
theorem RD_b {w : List Nat} (h : LetW 5 4 w) : DicB 4 5 32 1 (2 ^ 150) (RD w) := by
  have := rd_b (rowW w) 0 _ nil_b.dic (fun u hu => row_in h hu) (by rw [(chr_all h).2.1]; have := h.1; omega)
  rw [(chr_all h).2.1, Nat.zero_add] at this
  have h5 := h.1
  exact ⟨this.gd, this.lt, fun p hp => Nat.le_trans (this.ln p hp) h5, fun p hp => (this.bd p hp).mono (Nat.pow_le_pow_right (by decide) (by omega)), Nat.le_trans this.sz (Nat.pow_le_pow_right (by decide) h5)⟩
theorem rowD_c {c : Nat} : ∀ (R : List (List Nat)) (T : SumT), (∀ p ∈ T, ∀ x ∈ p.1, 0 ≤ x ∧ x < (c : Int)) → (∀ u ∈ R, ∀ n ∈ lets (treeT 8 u), n < c) → ∀ p ∈ rowDD R T, ∀ x ∈ p.1, 0 ≤ x ∧ x < (c : Int)
  | [], T, h, _ => h
  | u :: R, T, h, hu => by
    refine rowD_c R _ (fun p hp x hx => ?_) fun v hv => hu v (List.mem_cons_of_mem _ hv)
    obtain ⟨a, ha, b, hb, e⟩ := joinT_mem hp
    rw [e] at hx
    rcases List.mem_append.mp hx with hx | hx
    · exact h a ha x hx
    · exact say_c (treeT 8 u) (hu u (by simp)) b hb x hx
theorem RD_c {c : Nat} {w : List Nat} (h : LetW 5 4 w) (hc : ∀ x ∈ w, x < c) : ∀ p ∈ RD w, ∀ x ∈ p.1, 0 ≤ x ∧ x < (c : Int) := by
  refine rowD_c (rowW w) _ (fun p hp x hx => ?_) fun u hu n hn => ?_
  · rw [List.mem_singleton.mp hp] at hx
    cases hx
  · rw [(least_lets (row_in h hu).1 (row_in h hu).2.2).1] at hn
    refine hc n ?_
    rw [← (chr_all h).2.1]
    exact List.mem_flatten.mpr ⟨u, hu, hn⟩
theorem lrow_loop (y0 : Option D) : ∀ (R : List (List Nat)) (L : Nat) (T : SumT) (y2 : Option D), DicB 4 L (2 ^ L) 1 (2 ^ (30 * L)) T → (∀ u ∈ R, LetW 5 4 u ∧ leastT u = true ∧ 1 ≤ u.length) → L + R.flatten.length ≤ 5 →
    ∃ z2, forL (gName 2) ((sSet 1 (eCall m__law_joined (aCons (eVar 1) (aCons (eCall m__law_said (aCons (eCall m_least_tree (aCons (eVar 2) aNil)) aNil)) aNil))))) (R.map eW.en) [y0, some (dS T), y2] = .ok (.nx [y0, some (dS (rowDD R T)), z2])
  | [], L, T, y2, _, _, _ => ⟨y2, rfl⟩
  | u :: R, L, T, y2, h, hu, h5 => by
    obtain ⟨a, b, c⟩ := hu u (by simp)
    rw [List.flatten_cons, List.length_append] at h5
    obtain ⟨e1, e2⟩ := least_lets a c
    have B := say_b (treeT 8 u) (by rw [e1]; exact a.1) (by rw [e1]; exact a.2)
    rw [e1] at B
    obtain ⟨s1, s2⟩ := rs_step (L := L) c (by omega)
    have j := DicB.join (by decide) (by decide) h B
    have j2 : DicB 4 (L + u.length) (2 ^ (L + u.length)) 1 (2 ^ (30 * (L + u.length))) (joinT T (sayD (treeT 8 u))) := ⟨j.gd, j.lt, j.ln, fun p hp => (j.bd p hp).mono s2, Nat.le_trans j.sz s1⟩
    have tb := least_tree_ok a b
    have sb : m__law_said [(treeT 8 u).en] = .ok (dS (sayD (treeT 8 u)), .non) := law_said_ok 8 (treeT 8 u) (by have := a.1; omega) (by rw [e1]; exact a.1) (by rw [e1]; exact a.2)
    have m1 : 2 ^ (30 * L) ≤ 2 ^ 150 := Nat.pow_le_pow_right (by decide) (by omega)
    have m2 : mB u.length ≤ 2 ^ 75 := (mB5 a.1).1
    have S : Small (1 * 1) (2 ^ (30 * L) * mB u.length) := ⟨by decide, by decide, by
      have := Nat.mul_le_mul m1 m2
      rw [Nat.mul_one]
      exact Nat.lt_of_le_of_lt (Nat.mul_le_mul_left 100000 this) (by decide)⟩
    have S1 : Small 1 (2 ^ (30 * L)) := ⟨by decide, by decide, by
      rw [Nat.mul_one]
      exact Nat.lt_of_le_of_lt (Nat.mul_le_mul_left 100000 m1) (by decide)⟩
    have S2 : Small 1 (mB u.length) := ⟨by decide, by decide, by
      rw [Nat.mul_one]
      exact Nat.lt_of_le_of_lt (Nat.mul_le_mul_left 100000 m2) (by decide)⟩
    have jt := law_joined_ok h B S1 S2 S (by omega) (by
      have n1 : 2 ^ L ≤ 2 ^ 5 := Nat.pow_le_pow_right (by decide) (by omega)
      have n2 := (mB5 a.1).2
      exact Nat.le_trans (Nat.mul_le_mul n1 n2) (by decide))
    obtain ⟨z2, e⟩ := lrow_loop y0 R (L + u.length) _ (some (eW.en u)) j2 (fun v hv => hu v (List.mem_cons_of_mem _ hv)) (by omega)
    refine ⟨z2, ?_⟩
    show _ = Out.ok (Fl.nx [y0, some (dS (rowDD R (joinT T (sayD (treeT 8 u))))), z2])
    rw [← e, List.map_cons]
    conv => lhs; unfold forL
    generalize dS (joinT T (sayD (treeT 8 u))) = S3 at *
    generalize dS (sayD (treeT 8 u)) = ES at *
    generalize (treeT 8 u).en = TE at *
    generalize dS T = ET at *
    generalize eW.en u = U at *
    simp (disch := first | assumption | decide | omega) only [runF, m0, sSeq, sSet, sIf, sRet, sRetN, sExpr, sSkip_ok, sSetA, sSetIx, sFor, sPar, sBind, sAug, eVar, eCon_ok, eOp2, eOp1, eCall, eCallM, eCallT, eTup, eLst, eArg, eIf, tVal, tNotF, tAndF, tOrF, eB, eAndF, eOrF, eNotF, eIxA, eIxO, eCatO, ixA_lst, ixA_tup, ixA_scr, eDNew, eDGet, eDGetO, eDPop, eSortK, eMM, aHoleQ, aHole, aNil_ok, aCons, oNone_ok, oSome, eSlice, eSliceL, iSeqA, iSeq, iRange, iArg, ePeek, tPeek, eOwnM, tYes_ok, bind_ok, bind_exc, bind_stuck, of_some, flatD, SW.gName, List.getD_cons_zero, List.getD_cons_succ, List.set_cons_zero, List.set_cons_succ, List.map_cons, List.map_nil, List.length_cons, List.length_nil, List.cons_append, List.nil_append, List.replicate, Nat.reduceAdd, Nat.reduceSub, addD_int, subD_int, negD_int, repD_int, modD_int, fdivD_int, ltA_int, leA_int, gtA_int, geA_int, eqD_int, neD_int, pow_10_18, pow_10_60, tb, sb, jt]
theorem disp0 : dispD [.tup [], .tup [.int 1, .int 1]] = some [(wk [], .tup [.int 1, .int 1])] := by
  have kw : keyT (.tup []) = some (wk []) := keyT_word []
  unfold dispD
  rw [kw]
  rfl
theorem law_row_sum_ok {w : List Nat} (h : LetW 5 4 w) : m__law_row_sum [.tup ((rowW w).map eW.en)] = .ok (dS (RD w), .non) := by
  obtain ⟨z2, e⟩ := lrow_loop (some (.tup ((rowW w).map eW.en))) (rowW w) 0 [([], 1)] none nil_b.dic (fun u hu => row_in h hu) (by rw [(chr_all h).2.1]; have := h.1; omega)
  have it : itemsA (.tup ((rowW w).map eW.en)) = some ((rowW w).map eW.en) := rfl
  have d0 := disp0
  have p0 : D.dct (putAll [(wk [], D.tup [.int 1, .int 1])] []) = dS [([], 1)] := rfl
  have e : forL _ _ _ _ = Out.ok (Fl.nx [some (.tup ((rowW w).map eW.en)), some (dS (RD w)), z2]) := e
  generalize dS [([], 1)] = S0 at *
  generalize dS (RD w) = RE at *
  generalize (rowW w).map eW.en = RM at *
  generalize wk [] = WK at *
  simp (disch := first | assumption | decide | omega) only [m__law_row_sum, b__law_row_sum, runF, m0, sSeq, sSet, sIf, sRet, sRetN, sExpr, sSkip_ok, sSetA, sSetIx, sFor, sPar, sBind, sAug, eVar, eCon_ok, eOp2, eOp1, eCall, eCallM, eCallT, eTup, eLst, eArg, eIf, tVal, tNotF, tAndF, tOrF, eB, eAndF, eOrF, eNotF, eIxA, eIxO, eCatO, ixA_lst, ixA_tup, ixA_scr, eDNew, eDGet, eDGetO, eDPop, eSortK, eMM, aHoleQ, aHole, aNil_ok, aCons, oNone_ok, oSome, eSlice, eSliceL, iSeqA, iSeq, iRange, iArg, ePeek, tPeek, eOwnM, tYes_ok, bind_ok, bind_exc, bind_stuck, of_some, flatD, SW.gName, List.getD_cons_zero, List.getD_cons_succ, List.set_cons_zero, List.set_cons_succ, List.map_cons, List.map_nil, List.length_cons, List.length_nil, List.cons_append, List.nil_append, List.replicate, Nat.reduceAdd, Nat.reduceSub, addD_int, subD_int, negD_int, repD_int, modD_int, fdivD_int, ltA_int, leA_int, gtA_int, geA_int, eqD_int, neD_int, pow_10_18, pow_10_60, eDisp, d0, p0, it, e]
theorem lall_in {N M a c : Nat} {y0 y2 : Option D} {B0 : SumT} {q : Rat} (g0 : Good B0) (n0 : 0 < N) (hN : N < 2 ^ a) (hM : M < 2 ^ a) (c6 : c ≤ 6) (a6 : a ≤ 5000000) : ∀ (B s : SumT) (k : Nat) (y5 : Option D), AccL N M c 5 k s → k + B.length ≤ 1000000000 → (∀ t ∈ B, t ∈ B0 ∧ t.1.length ≤ 5 ∧ (∀ x ∈ t.1, 0 ≤ x ∧ x < (c : Int)) ∧ Bd N M (q * t.2) ∧ m__law_by [eRat.en q, eRat.en t.2] = .ok (eRat.en (q * t.2), .non)) →
    ∃ z5, forL (gName 5) ((sExpr (eCallM m__law_put 0 1 (aHoleQ 1 (aCons (eVar 5) (aCons (eCall m__law_by (aCons (eVar 3) (aCons (eOp2 ixA (eVar 4) (eVar 5)) aNil))) aNil)))))) ((B.map (·.1)).map eWord.en) [y0, some (dS s), y2, some (eRat.en q), some (dS B0), y5] = .ok (.nx [y0, some (dS (addS s B q)), y2, some (eRat.en q), some (dS B0), z5])
  | [], s, k, y5, h, _, _ => ⟨y5, rfl⟩
  | r :: B, s, k, y5, h, hk, hr => by
    obtain ⟨r0, r1, r2, r3, r4⟩ := hr r (by simp)
    rw [List.length_cons] at hk
    have p1 : m__law_put [dS s, eWord.en r.1, eRat.en (q * r.2)] = .ok (.non, dS (addT s r.1 (q * r.2))) := law_put_g (h.sz n0 hN hM (by omega) r.1) (bd_sz2 r3 n0 hN hM) (by omega) (Nat.le_trans (h.len (Nat.le_refl _) c6) (by decide))
    have ix : ixA (dS B0) (eWord.en r.1) = some (eRat.en r.2) := ixA_E (getT_of_mem g0.nd r0)
    obtain ⟨z5, e⟩ := lall_in (y0 := y0) (y2 := y2) g0 n0 hN hM c6 a6 B (addT s r.1 (q * r.2)) (k + 1) (some (eWord.en r.1)) (h.add n0 r3 r1 r2) (by omega) (fun x hx => hr x (List.mem_cons_of_mem _ hx))
    refine ⟨z5, ?_⟩
    show _ = Out.ok (Fl.nx [y0, some (dS (addS (addT s r.1 (q * r.2)) B q)), y2, some (eRat.en q), some (dS B0), z5])
    rw [← e, List.map_cons, List.map_cons]
    conv => lhs; unfold forL
    generalize dS (addT s r.1 (q * r.2)) = S2 at *
    generalize dS s = S1 at *
    generalize dS B0 = S0 at *
    generalize eWord.en r.1 = W1 at *
    generalize eRat.en (q * r.2) = Q2 at *
    generalize eRat.en r.2 = Q1 at *
    generalize eRat.en q = Q0 at *
    simp (disch := first | assumption | decide | omega) only [runF, m0, sSeq, sSet, sIf, sRet, sRetN, sExpr, sSkip_ok, sSetA, sSetIx, sFor, sPar, sBind, sAug, eVar, eCon_ok, eOp2, eOp1, eCall, eCallM, eCallT, eTup, eLst, eArg, eIf, tVal, tNotF, tAndF, tOrF, eB, eAndF, eOrF, eNotF, eIxA, eIxO, eCatO, ixA_lst, ixA_tup, ixA_scr, eDNew, eDGet, eDGetO, eDPop, eSortK, eMM, aHoleQ, aHole, aNil_ok, aCons, oNone_ok, oSome, eSlice, eSliceL, iSeqA, iSeq, iRange, iArg, ePeek, tPeek, eOwnM, tYes_ok, bind_ok, bind_exc, bind_stuck, of_some, flatD, SW.gName, List.getD_cons_zero, List.getD_cons_succ, List.set_cons_zero, List.set_cons_succ, List.map_cons, List.map_nil, List.length_cons, List.length_nil, List.cons_append, List.nil_append, List.replicate, Nat.reduceAdd, Nat.reduceSub, addD_int, subD_int, negD_int, repD_int, modD_int, fdivD_int, ltA_int, leA_int, gtA_int, geA_int, eqD_int, neD_int, pow_10_18, pow_10_60, ix, r4, p1, Option.getD_some]
theorem lall_loop {y0 : Option D} {b c : Nat} (hb : b ≤ 400000) (c4 : c ≤ 4) : ∀ (X s : SumT) (k : Nat) (y2 y3 y4 y5 : Option D), AccL 2520 (2 ^ (b + 150)) c 5 k s → k + 32 * X.length ≤ 100000000 → (∀ p ∈ X, p.1.length ≤ 5 ∧ (∀ x ∈ p.1, 0 ≤ x ∧ x < (c : Int)) ∧ Bd 2520 (2 ^ b) p.2) →
    (∃ z2 z3 z4 z5, forL (gTup 2 (gCons (gName 2) (gCons (gName 3) gNil))) ((sSeq (sSet 4 (eCall m__law_row_sum (aCons (eVar 2) aNil))) (sFor (iSeqA (eVar 4)) (gName 5) (sExpr (eCallM m__law_put 0 1 (aHoleQ 1 (aCons (eVar 5) (aCons (eCall m__law_by (aCons (eVar 3) (aCons (eOp2 ixA (eVar 4) (eVar 5)) aNil))) aNil)))))))) (X.map eLR) [y0, some (dS s), y2, y3, y4, y5] = .ok (.nx [y0, some (dS (combA (fun w => RD (natW w)) X s)), z2, z3, z4, z5])) ∧ AccL 2520 (2 ^ (b + 150)) c 5 (k + 32 * X.length) (combA (fun w => RD (natW w)) X s)
  | [], s, k, y2, y3, y4, y5, h, _, _ => ⟨⟨y2, y3, y4, y5, rfl⟩, h⟩
  | p :: X, s, k, y2, y3, y4, y5, h, hk, hX => by
    obtain ⟨h1, h2, h3⟩ := hX p (by simp)
    rw [List.length_cons] at hk
    have hlet := let_nat h1 fun x hx => ⟨(h2 x hx).1, by have := (h2 x hx).2; omega⟩
    have B := RD_b hlet
    have C := RD_c (c := c) hlet fun x hx => by
      obtain ⟨y, hy, rfl⟩ := List.mem_map.mp hx
      have := h2 y hy
      omega
    have rs := law_row_sum_ok hlet
    have ht : ∀ t ∈ RD (natW p.1), t ∈ RD (natW p.1) ∧ t.1.length ≤ 5 ∧ (∀ x ∈ t.1, 0 ≤ x ∧ x < (c : Int)) ∧ Bd 2520 (2 ^ (b + 150)) (p.2 * t.2) ∧ m__law_by [eRat.en p.2, eRat.en t.2] = .ok (eRat.en (p.2 * t.2), .non) := fun t ht => by
      have b1 := h3.mul (B.bd t ht)
      rw [Nat.mul_one, ← Nat.pow_add] at b1
      have s1 := bd_sz2 (a := b + 200) h3 (by decide) (Nat.lt_of_lt_of_le (show 2520 < 2 ^ 12 by decide) (Nat.pow_le_pow_right (by decide) (by omega))) (Nat.pow_lt_pow_right (by decide) (by omega))
      have s2 := bd_sz2 (a := b + 200) (B.bd t ht) (by decide) (Nat.one_lt_two_pow (by omega)) (Nat.pow_lt_pow_right (by decide) (by omega))
      exact ⟨ht, B.ln t ht, C t ht, b1, law_by_ok s1 s2 (by omega)⟩
    have sz := B.sz
    obtain ⟨w5, ei⟩ := lall_in (y0 := y0) (y2 := some (.tup ((rowW (natW p.1)).map eW.en))) (q := p.2) (a := b + 200) B.gd (by decide) (Nat.lt_of_lt_of_le (show 2520 < 2 ^ 12 by decide) (Nat.pow_le_pow_right (by decide) (by omega))) (Nat.pow_lt_pow_right (by decide) (show b + 150 < b + 200 by omega)) (by omega) (by omega) (RD (natW p.1)) s k y5 h (by omega) ht
    have ac := acc_all (by decide) (scS p.2 (RD (natW p.1))) s k h fun t ht' => by
      obtain ⟨q, hq, rfl⟩ := mem_scS ht'
      obtain ⟨_, a1, a2, a3, _⟩ := ht q hq
      exact ⟨a1, a2, a3⟩
    rw [scS_len] at ac
    have ac : AccL 2520 (2 ^ (b + 150)) c 5 (k + 32) (addS s (RD (natW p.1)) p.2) := ac.up (by omega)
    obtain ⟨⟨z2, z3, z4, z5, e⟩, acf⟩ := lall_loop (y0 := y0) hb c4 X (addS s (RD (natW p.1)) p.2) (k + 32) (some (.tup ((rowW (natW p.1)).map eW.en))) (some (eRat.en p.2)) (some (dS (RD (natW p.1)))) w5 ac (by omega) (fun q hq => hX q (List.mem_cons_of_mem _ hq))
    refine ⟨⟨z2, z3, z4, z5, ?_⟩, by rw [List.length_cons]; exact acf.up (by omega)⟩
    show _ = Out.ok (Fl.nx [y0, some (dS (combA (fun w => RD (natW w)) X (addS s (RD (natW p.1)) p.2))), z2, z3, z4, z5])
    rw [← e, List.map_cons]
    conv => lhs; unfold forL
    have et : eLR p = .tup [.tup ((rowW (natW p.1)).map eW.en), eRat.en p.2] := rfl
    have gt : ∀ (a b : D) (ρ : Rho), gTup 2 (gCons (gName 2) (gCons (gName 3) gNil)) (.tup [a, b]) ρ = some ((ρ.set 2 (some a)).set 3 (some b)) := fun _ _ _ => rfl
    have it := items_E (RD (natW p.1))
    rw [et]
    generalize ((RD (natW p.1)).map (·.1)).map eWord.en = KB at *
    generalize dS (addS s (RD (natW p.1)) p.2) = S2 at *
    generalize dS (RD (natW p.1)) = S3 at *
    generalize dS s = S1 at *
    generalize (rowW (natW p.1)).map eW.en = RM at *
    generalize eRat.en p.2 = Q1 at *
    simp (disch := first | assumption | decide | omega) only [runF, m0, sSeq, sSet, sIf, sRet, sRetN, sExpr, sSkip_ok, sSetA, sSetIx, sFor, sPar, sBind, sAug, eVar, eCon_ok, eOp2, eOp1, eCall, eCallM, eCallT, eTup, eLst, eArg, eIf, tVal, tNotF, tAndF, tOrF, eB, eAndF, eOrF, eNotF, eIxA, eIxO, eCatO, ixA_lst, ixA_tup, ixA_scr, eDNew, eDGet, eDGetO, eDPop, eSortK, eMM, aHoleQ, aHole, aNil_ok, aCons, oNone_ok, oSome, eSlice, eSliceL, iSeqA, iSeq, iRange, iArg, ePeek, tPeek, eOwnM, tYes_ok, bind_ok, bind_exc, bind_stuck, of_some, flatD, SW.gName, List.getD_cons_zero, List.getD_cons_succ, List.set_cons_zero, List.set_cons_succ, List.map_cons, List.map_nil, List.length_cons, List.length_nil, List.cons_append, List.nil_append, List.replicate, Nat.reduceAdd, Nat.reduceSub, addD_int, subD_int, negD_int, repD_int, modD_int, fdivD_int, ltA_int, leA_int, gtA_int, geA_int, eqD_int, neD_int, pow_10_18, pow_10_60, gt, rs, it, ei]
theorem law_all_ok {b c : Nat} (hb : b ≤ 400000) (c4 : c ≤ 4) {X : SumT} (hX : ∀ p ∈ X, p.1.length ≤ 5 ∧ (∀ x ∈ p.1, 0 ≤ x ∧ x < (c : Int)) ∧ Bd 2520 (2 ^ b) p.2) (hl : X.length ≤ 20000) : m__law_all [.lst (X.map eLR)] = .ok (dS (combA (fun w => RD (natW w)) X []), .non) ∧ AccL 2520 (2 ^ (b + 150)) c 5 (32 * X.length) (combA (fun w => RD (natW w)) X []) := by
  obtain ⟨⟨z2, z3, z4, z5, e⟩, ac⟩ := lall_loop (y0 := some (.lst (X.map eLR))) hb c4 X [] 0 none none none none (accL_nil _ _ _ _) (by omega) hX
  refine ⟨?_, by rw [Nat.zero_add] at ac; exact ac⟩
  have en : D.dct [] = dS [] := rfl
  have it : itemsA (.lst (X.map eLR)) = some (X.map eLR) := rfl
  generalize dS (combA (fun w => RD (natW w)) X []) = S2 at *
  generalize X.map eLR = XM at *
  simp (disch := first | assumption | decide | omega) only [m__law_all, b__law_all, runF, m0, sSeq, sSet, sIf, sRet, sRetN, sExpr, sSkip_ok, sSetA, sSetIx, sFor, sPar, sBind, sAug, eVar, eCon_ok, eOp2, eOp1, eCall, eCallM, eCallT, eTup, eLst, eArg, eIf, tVal, tNotF, tAndF, tOrF, eB, eAndF, eOrF, eNotF, eIxA, eIxO, eCatO, ixA_lst, ixA_tup, ixA_scr, eDNew, eDGet, eDGetO, eDPop, eSortK, eMM, aHoleQ, aHole, aNil_ok, aCons, oNone_ok, oSome, eSlice, eSliceL, iSeqA, iSeq, iRange, iArg, ePeek, tPeek, eOwnM, tYes_ok, bind_ok, bind_exc, bind_stuck, of_some, flatD, SW.gName, List.getD_cons_zero, List.getD_cons_succ, List.set_cons_zero, List.set_cons_succ, List.map_cons, List.map_nil, List.length_cons, List.length_nil, List.cons_append, List.nil_append, List.replicate, Nat.reduceAdd, Nat.reduceSub, addD_int, subD_int, negD_int, repD_int, modD_int, fdivD_int, ltA_int, leA_int, gtA_int, geA_int, eqD_int, neD_int, pow_10_18, pow_10_60, en, it, e]
theorem lin_all {X : SumT} (hX : ∀ p ∈ X, p.1.length ≤ 5 ∧ ∀ x ∈ p.1, 0 ≤ x ∧ x < 4) (f : Wd → Rat) : linS f (combA (fun w => RD (natW w)) X []) = linS (rsW f) X := by
  rw [lin_combA _ _ _ _ good_nil]
  have e0 : linS f [] = 0 := rfl
  rw [e0]
  have : linS (fun w => linS f (RD (natW w))) X = linS (rsW f) X := lin_congr fun p hp => lin_RD f (let_nat (hX p hp).1 (hX p hp).2)
  rw [this]
  grind

/-! the form of what is told -/
abbrev eLRe : Enc (List (List Nat) × Rat) := ePair (eTupOf eW) eRat
def rowP (p : Wd × Rat) : List (List Nat) × Rat := (rowW (natW p.1), p.2)
theorem eLR_en (X : SumT) : X.map eLR = (X.map rowP).map eLRe.en := by rw [List.map_map]; rfl
theorem ne_rows (X : SumT) : neD (.lst (X.map eLR)) (.lst (X.map eLR)) = some (.bl false) := by
  rw [eLR_en]
  have := neD_enc (eLstOf eLRe) (by decide) (X.map rowP) (X.map rowP)
  rw [decide_eq_true rfl] at this
  exact this
theorem ix_tm {α : Type} (f : α → D) (l : List α) (z : α) {i : Nat} (h : i < l.length) : ixA (.tup (l.map f)) (.int ((i : Nat) : Int)) = some (f (l.getD i z)) := by
  show atI (l.map f) ((i : Nat) : Int) = _
  unfold atI ixN
  rw [List.length_map, if_pos (by omega), if_pos (by omega)]
  show (l.map f)[((i : Nat) : Int).toNat]? = _
  rw [Int.toNat_natCast, List.getElem?_map, List.getD_eq_getElem?_getD, List.getElem?_eq_getElem h]
  rfl
theorem ix_lm {α : Type} (f : α → D) (l : List α) (z : α) {i : Nat} (h : i < l.length) : ixA (.lst (l.map f)) (.int ((i : Nat) : Int)) = some (f (l.getD i z)) := by
  rw [ixA_lst]
  exact ix_map f l z h
theorem range_from1 {n : Nat} (h : n ≤ 20000) : rangeD [.int 1, .int ((n : Nat) : Int)] = some ((List.range (n - 1)).map fun k => .int (1 + ((k : Nat) : Int))) := by
  rw [rangeD2 (by omega) (by omega) (by omega) (by omega) (by omega)]
  congr 3
  omega
theorem filter_none {α : Type} {c : α → Bool} {l : List α} (h : ∀ x ∈ l, c x = false) : l.filter c = [] := List.filter_eq_nil_iff.mpr fun x hx => by rw [h x hx]; exact Bool.false_ne_true
theorem ne_nil0 : neD (.lst []) (.lst []) = some (.bl false) := rfl
theorem eq_nil0 : eqD (.lst []) (.lst []) = some (.bl true) := rfl
theorem law_is_row_ok {w : List Nat} (h : LetW 5 4 w) : m__law_is_row [.tup ((rowW w).map eW.en)] = .ok (.bl true, .non) := by
  obtain ⟨c1, c2, c3⟩ := chr_all h
  have hlen : (rowW w).length ≤ 20000 := by
    have : ∀ R : List (List Nat), (∀ u ∈ R, 1 ≤ u.length) → R.length ≤ R.flatten.length := by
      intro R
      induction R with
      | nil => intro _; exact Nat.le_refl _
      | cons u R ih =>
        intro hu
        have h1 := hu u (by simp)
        have h2 := ih fun v hv => hu v (List.mem_cons_of_mem _ hv)
        rw [List.flatten_cons, List.length_append, List.length_cons]
        omega
    have := this (rowW w) fun u hu => (row_in h hu).2.2
    rw [c2] at this
    have := h.1
    omega
  have i0 : isiD [.tup ((rowW w).map eW.en), .ty .tuple] = some (.bl true) := rfl
  have it : itemsA (.tup ((rowW w).map eW.en)) = some ((rowW w).map eW.en) := rfl
  have ln : lenA [.tup ((rowW w).map eW.en)] = some (.int (((rowW w).length : Nat) : Int)) := by
    show some (D.int ((((rowW w).map eW.en).length : Nat) : Int)) = _
    rw [List.length_map]
  have cm1 := compL_of (vs := [2]) (b := gName 2) (tt := (tNotF (tVal (eCall m__law_is_least (aCons (eVar 2) aNil))))) (fe := (eVar 2)) (f := eW.en) (ρ := [some (.tup ((rowW w).map eW.en)), none, none]) (c := fun u => !leastL u) (h := eW.en) (rowW w) (by
    intro u hu
    have e := law_is_least_ok u (row_in h hu).1.1
    refine ⟨[some (.tup ((rowW w).map eW.en)), none, some (eW.en u)], rfl, [some (.tup ((rowW w).map eW.en)), none, some (eW.en u)], ?_, (fun _ => rfl), fun _ => ⟨[some (.tup ((rowW w).map eW.en)), none, some (eW.en u)], rfl, rfl⟩⟩
    generalize eW.en u = U at *
    generalize (rowW w).map eW.en = RM at *
    simp (disch := first | assumption | decide | omega) only [runF, m0, sSeq, sSet, sIf, sRet, sRetN, sExpr, sSkip_ok, sSetA, sSetIx, sFor, sPar, sBind, sAug, eVar, eCon_ok, eOp2, eOp1, eCall, eCallM, eCallT, eTup, eLst, eArg, eIf, tVal, tNotF, tAndF, tOrF, eB, eAndF, eOrF, eNotF, eIxA, eIxO, eCatO, ixA_lst, ixA_tup, ixA_scr, eDNew, eDGet, eDGetO, eDPop, eSortK, eMM, aHoleQ, aHole, aNil_ok, aCons, oNone_ok, oSome, eSlice, eSliceL, iSeqA, iSeq, iRange, iArg, ePeek, tPeek, eOwnM, tYes_ok, bind_ok, bind_exc, bind_stuck, of_some, flatD, SW.gName, List.getD_cons_zero, List.getD_cons_succ, List.set_cons_zero, List.set_cons_succ, List.map_cons, List.map_nil, List.length_cons, List.length_nil, List.cons_append, List.nil_append, List.replicate, Nat.reduceAdd, Nat.reduceSub, addD_int, subD_int, negD_int, repD_int, modD_int, fdivD_int, ltA_int, leA_int, gtA_int, geA_int, eqD_int, neD_int, pow_10_18, pow_10_60, e])
  rw [filter_none fun u hu => by rw [← least_alike (row_in h hu).1, (row_in h hu).2.1]; rfl] at cm1
  have rg := range_from1 hlen
  have cm2 := compL_of (vs := [1]) (b := gName 1) (tt := (tVal (eOp2 gtA (eOp2 ixA (eVar 0) (eVar 1)) (eOp2 ixA (eVar 0) (eOp2 subD (eVar 1) (eCon (.int 1))))))) (fe := (eVar 1)) (f := fun k : Nat => D.int (1 + ((k : Nat) : Int))) (ρ := [some (.tup ((rowW w).map eW.en)), none, none]) (c := fun k => ltW ((rowW w).getD k []) ((rowW w).getD (k + 1) [])) (h := fun k : Nat => D.int (1 + ((k : Nat) : Int))) (List.range ((rowW w).length - 1)) (by
    intro k hk
    have hk := List.mem_range.mp hk
    have x1 := ix_tm eW.en (rowW w) [] (i := k + 1) (by omega)
    have x2 := ix_tm eW.en (rowW w) [] (i := k) (by omega)
    have e1 : (1 : Int) + ((k : Nat) : Int) = (((k + 1 : Nat)) : Int) := by omega
    have e2 : (((k + 1 : Nat)) : Int) - 1 = ((k : Nat) : Int) := by omega
    have ga := gtA_w ((rowW w).getD (k + 1) []) ((rowW w).getD k [])
    refine ⟨[some (.tup ((rowW w).map eW.en)), some (.int (1 + ((k : Nat) : Int))), none], rfl, [some (.tup ((rowW w).map eW.en)), some (.int (1 + ((k : Nat) : Int))), none], ?_, (fun _ => rfl), fun _ => ⟨[some (.tup ((rowW w).map eW.en)), some (.int (1 + ((k : Nat) : Int))), none], rfl, rfl⟩⟩
    rw [e1]
    generalize ((k + 1 : Nat) : Int) = K1 at *
    generalize ((k : Nat) : Int) = K0 at *
    have x1 : ixA (.tup ((rowW w).map eW.en)) (.int K1) = _ := x1
    simp only [ixA_tup] at x1 x2
    generalize (rowW w).map eW.en = RM at *
    simp (disch := first | assumption | decide | omega) only [runF, m0, sSeq, sSet, sIf, sRet, sRetN, sExpr, sSkip_ok, sSetA, sSetIx, sFor, sPar, sBind, sAug, eVar, eCon_ok, eOp2, eOp1, eCall, eCallM, eCallT, eTup, eLst, eArg, eIf, tVal, tNotF, tAndF, tOrF, eB, eAndF, eOrF, eNotF, eIxA, eIxO, eCatO, ixA_lst, ixA_tup, ixA_scr, eDNew, eDGet, eDGetO, eDPop, eSortK, eMM, aHoleQ, aHole, aNil_ok, aCons, oNone_ok, oSome, eSlice, eSliceL, iSeqA, iSeq, iRange, iArg, ePeek, tPeek, eOwnM, tYes_ok, bind_ok, bind_exc, bind_stuck, of_some, flatD, SW.gName, List.getD_cons_zero, List.getD_cons_succ, List.set_cons_zero, List.set_cons_succ, List.map_cons, List.map_nil, List.length_cons, List.length_nil, List.cons_append, List.nil_append, List.replicate, Nat.reduceAdd, Nat.reduceSub, addD_int, subD_int, negD_int, repD_int, modD_int, fdivD_int, ltA_int, leA_int, gtA_int, geA_int, eqD_int, neD_int, pow_10_18, pow_10_60, x1, x2, e2, ga])
  rw [filter_none fun k hk => by
    unfold fallOk at c3
    have := List.all_eq_true.mp c3 k hk
    simpa using this] at cm2
  rw [List.map_nil] at cm1 cm2
  have n0 := ne_nil0
  have q0 := eq_nil0
  generalize (List.range ((rowW w).length - 1)).map (fun k : Nat => D.int (1 + ((k : Nat) : Int))) = RG at *
  generalize (rowW w).map eW.en = RM at *
  simp (disch := first | assumption | decide | omega) only [m__law_is_row, b__law_is_row, runF, m0, sSeq, sSet, sIf, sRet, sRetN, sExpr, sSkip_ok, sSetA, sSetIx, sFor, sPar, sBind, sAug, eVar, eCon_ok, eOp2, eOp1, eCall, eCallM, eCallT, eTup, eLst, eArg, eIf, tVal, tNotF, tAndF, tOrF, eB, eAndF, eOrF, eNotF, eIxA, eIxO, eCatO, ixA_lst, ixA_tup, ixA_scr, eDNew, eDGet, eDGetO, eDPop, eSortK, eMM, aHoleQ, aHole, aNil_ok, aCons, oNone_ok, oSome, eSlice, eSliceL, iSeqA, iSeq, iRange, iArg, ePeek, tPeek, eOwnM, tYes_ok, bind_ok, bind_exc, bind_stuck, of_some, flatD, SW.gName, List.getD_cons_zero, List.getD_cons_succ, List.set_cons_zero, List.set_cons_succ, List.map_cons, List.map_nil, List.length_cons, List.length_nil, List.cons_append, List.nil_append, List.replicate, Nat.reduceAdd, Nat.reduceSub, addD_int, subD_int, negD_int, repD_int, modD_int, fdivD_int, ltA_int, leA_int, gtA_int, geA_int, eqD_int, neD_int, pow_10_18, pow_10_60, i0, it, ln, rg, eComp, cm1, cm2, n0, q0, Bool.not_true, Bool.false_eq_true, if_false]
theorem whole_loop (y0 : Option D) : ∀ (R : List (List Nat)) (a : List Nat) (y2 : Option D), a.length + R.flatten.length ≤ 1000 → ∃ z2, forL (gName 2) ((sSet 1 (eOp2 addD (eVar 1) (eVar 2)))) (R.map eW.en) [y0, some (eW.en a), y2] = .ok (.nx [y0, some (eW.en (a ++ R.flatten)), z2])
  | [], a, y2, _ => ⟨y2, by rw [List.flatten_nil, List.append_nil]; rfl⟩
  | u :: R, a, y2, h => by
    rw [List.flatten_cons, List.length_append] at h
    have ad := addD_wN a u (by omega)
    obtain ⟨z2, e⟩ := whole_loop y0 R (a ++ u) (some (eW.en u)) (by rw [List.length_append]; omega)
    refine ⟨z2, ?_⟩
    rw [List.flatten_cons, ← List.append_assoc, ← e, List.map_cons]
    conv => lhs; unfold forL
    generalize eW.en (a ++ u) = AU at *
    generalize eW.en u = U at *
    generalize eW.en a = A at *
    simp (disch := first | assumption | decide | omega) only [runF, m0, sSeq, sSet, sIf, sRet, sRetN, sExpr, sSkip_ok, sSetA, sSetIx, sFor, sPar, sBind, sAug, eVar, eCon_ok, eOp2, eOp1, eCall, eCallM, eCallT, eTup, eLst, eArg, eIf, tVal, tNotF, tAndF, tOrF, eB, eAndF, eOrF, eNotF, eIxA, eIxO, eCatO, ixA_lst, ixA_tup, ixA_scr, eDNew, eDGet, eDGetO, eDPop, eSortK, eMM, aHoleQ, aHole, aNil_ok, aCons, oNone_ok, oSome, eSlice, eSliceL, iSeqA, iSeq, iRange, iArg, ePeek, tPeek, eOwnM, tYes_ok, bind_ok, bind_exc, bind_stuck, of_some, flatD, SW.gName, List.getD_cons_zero, List.getD_cons_succ, List.set_cons_zero, List.set_cons_succ, List.map_cons, List.map_nil, List.length_cons, List.length_nil, List.cons_append, List.nil_append, List.replicate, Nat.reduceAdd, Nat.reduceSub, addD_int, subD_int, negD_int, repD_int, modD_int, fdivD_int, ltA_int, leA_int, gtA_int, geA_int, eqD_int, neD_int, pow_10_18, pow_10_60, ad]
theorem whole_word_ok {w : Wd} (h5 : w.length ≤ 5) (h : ∀ x ∈ w, 0 ≤ x ∧ x < 4) : m__law_whole_word [.tup ((rowW (natW w)).map eW.en)] = .ok (eWord.en w, .non) := by
  have hlet := let_nat h5 h
  obtain ⟨z2, e⟩ := whole_loop (some (.tup ((rowW (natW w)).map eW.en))) (rowW (natW w)) [] none (by rw [(chr_all hlet).2.1]; have := hlet.1; simp; omega)
  rw [List.nil_append, (chr_all hlet).2.1, ← en_nat fun x hx => (h x hx).1] at e
  have e0 : eW.en [] = .tup [] := rfl
  rw [e0] at e
  have it : itemsA (.tup ((rowW (natW w)).map eW.en)) = some ((rowW (natW w)).map eW.en) := rfl
  generalize (rowW (natW w)).map eW.en = RM at *
  generalize eWord.en w = WE at *
  simp (disch := first | assumption | decide | omega) only [m__law_whole_word, b__law_whole_word, runF, m0, sSeq, sSet, sIf, sRet, sRetN, sExpr, sSkip_ok, sSetA, sSetIx, sFor, sPar, sBind, sAug, eVar, eCon_ok, eOp2, eOp1, eCall, eCallM, eCallT, eTup, eLst, eArg, eIf, tVal, tNotF, tAndF, tOrF, eB, eAndF, eOrF, eNotF, eIxA, eIxO, eCatO, ixA_lst, ixA_tup, ixA_scr, eDNew, eDGet, eDGetO, eDPop, eSortK, eMM, aHoleQ, aHole, aNil_ok, aCons, oNone_ok, oSome, eSlice, eSliceL, iSeqA, iSeq, iRange, iArg, ePeek, tPeek, eOwnM, tYes_ok, bind_ok, bind_exc, bind_stuck, of_some, flatD, SW.gName, List.getD_cons_zero, List.getD_cons_succ, List.set_cons_zero, List.set_cons_succ, List.map_cons, List.map_nil, List.length_cons, List.length_nil, List.cons_append, List.nil_append, List.replicate, Nat.reduceAdd, Nat.reduceSub, addD_int, subD_int, negD_int, repD_int, modD_int, fdivD_int, ltA_int, leA_int, gtA_int, geA_int, eqD_int, neD_int, pow_10_18, pow_10_60, it, e]
theorem le_rk (a b : Wd) : leA (rkE a) (rkE b) = some (.bl (!rkLt b a)) := by
  show leD (rkE a) (rkE b) = _
  unfold leD cmpP
  rw [rkE_py, rkE_py]
  dsimp only
  have : alOk (rkKey a) (rkKey b) = true := by
    unfold alOk
    rw [rk_alike, decide_eq_true (Nat.le_trans (rk_depth a) (by decide))]
    rfl
  rw [this, if_pos rfl, rkKey_lt]
theorem form_ok {X : SumT} (s : Sm X) (hX : ∀ p ∈ X, p.1.length ≤ 5 ∧ ∀ x ∈ p.1, 0 ≤ x ∧ x < 4) (hl : X.length ≤ 20000) : m__law_form_right [.lst (X.map eLR)] = .ok (.bl true, .non) := by
  have i0 : isiD [.lst (X.map eLR), .ty .list] = some (.bl true) := rfl
  have it : itemsA (.lst (X.map eLR)) = some (X.map eLR) := rfl
  obtain ⟨ρ', e, y, rfl⟩ := forL_fold (b := gName 1) (g := (sSeq (sIf (tOrF (tNotF (tVal (eArg isiD (aCons (eVar 1) (aCons (eCon (.ty .tuple)) aNil))))) (tOrF (tVal (eOp2 neD (eArg lenA (aCons (eVar 1) aNil)) (eCon (.int 2)))) (tNotF (tVal (eCall m__law_is_row (aCons (eOp2 ixA (eVar 1) (eCon (.int 0))) aNil)))))) (sRet (eCon (.bl false))) sSkip) (sIf (tOrF (tNotF (tVal (eArg isiD (aCons (eOp2 ixA (eVar 1) (eCon (.int 1))) (aCons (eCon (.ty .tuple)) aNil))))) (tOrF (tVal (eOp2 eqD (eOp2 ixA (eOp2 ixA (eVar 1) (eCon (.int 1))) (eCon (.int 0))) (eCon (.int 0)))) (tOrF (tVal (eOp2 ltA (eOp2 ixA (eOp2 ixA (eVar 1) (eCon (.int 1))) (eCon (.int 1))) (eCon (.int 1)))) (tVal (eOp2 neD (eCall m__law_low (aCons (eOp2 ixA (eOp2 ixA (eVar 1) (eCon (.int 1))) (eCon (.int 0))) (aCons (eOp2 ixA (eOp2 ixA (eVar 1) (eCon (.int 1))) (eCon (.int 1))) aNil))) (eOp2 ixA (eVar 1) (eCon (.int 1)))))))) (sRet (eCon (.bl false))) sSkip))) (f := eLR) (σ := Unit) (step := fun s _ => s) (St := fun _ ρ => ∃ y, ρ = [some (.lst (X.map eLR)), y, none, none, none, none]) X () [some (.lst (X.map eLR)), none, none, none, none, none] ⟨_, rfl⟩ (by
    rintro p hp _ ρ ⟨y, rfl⟩
    obtain ⟨h1, h2⟩ := hX p hp
    have j1 : isiD [eLR p, .ty .tuple] = some (.bl true) := rfl
    have j2 : lenA [eLR p] = some (.int 2) := rfl
    have x0 : ixA (eLR p) (.int 0) = some (.tup ((rowW (natW p.1)).map eW.en)) := rfl
    have x1 : ixA (eLR p) (.int 1) = some (eRat.en p.2) := rfl
    have j3 : isiD [eRat.en p.2, .ty .tuple] = some (.bl true) := rfl
    have ir := law_is_row_ok (let_nat h1 h2)
    have hn := num_ne (s.nz p hp)
    have hd : ¬ ((p.2.den : Nat) : Int) < 1 := by have := p.2.den_pos; omega
    have lo := law_low_ok p.2.num p.2.den_nz
    rw [Rat.mkRat_self] at lo
    have ne : neD (eRat.en p.2) (eRat.en p.2) = some (.bl false) := by rw [neD_enc eRat (by decide), decide_eq_true rfl]; rfl
    have q0 := r0 p.2
    have q1 := r1 p.2
    refine ⟨[some (.lst (X.map eLR)), some (eLR p), none, none, none, none], [some (.lst (X.map eLR)), some (eLR p), none, none, none, none], rfl, ?_, _, rfl⟩
    generalize X.map eLR = XM at *
    generalize eLR p = EP at *
    generalize (rowW (natW p.1)).map eW.en = RM at *
    generalize eRat.en p.2 = EQ at *
    simp (disch := first | assumption | decide | omega) only [runF, m0, sSeq, sSet, sIf, sRet, sRetN, sExpr, sSkip_ok, sSetA, sSetIx, sFor, sPar, sBind, sAug, eVar, eCon_ok, eOp2, eOp1, eCall, eCallM, eCallT, eTup, eLst, eArg, eIf, tVal, tNotF, tAndF, tOrF, eB, eAndF, eOrF, eNotF, eIxA, eIxO, eCatO, ixA_lst, ixA_tup, ixA_scr, eDNew, eDGet, eDGetO, eDPop, eSortK, eMM, aHoleQ, aHole, aNil_ok, aCons, oNone_ok, oSome, eSlice, eSliceL, iSeqA, iSeq, iRange, iArg, ePeek, tPeek, eOwnM, tYes_ok, bind_ok, bind_exc, bind_stuck, of_some, flatD, SW.gName, List.getD_cons_zero, List.getD_cons_succ, List.set_cons_zero, List.set_cons_succ, List.map_cons, List.map_nil, List.length_cons, List.length_nil, List.cons_append, List.nil_append, List.replicate, Nat.reduceAdd, Nat.reduceSub, addD_int, subD_int, negD_int, repD_int, modD_int, fdivD_int, ltA_int, leA_int, gtA_int, geA_int, eqD_int, neD_int, pow_10_18, pow_10_60, j1, j2, decide_true, x0, x1, j3, ir, q0, q1, decide_eq_false hn, decide_eq_false hd, lo, ne, Bool.not_true, Bool.false_eq_true, if_false])
  have cm1 := fun (y1 : Option D) => compL_of (vs := [3, 4]) (b := (gTup 2 (gCons (gName 3) (gCons (gName 4) gNil)))) (tt := tYesF) (fe := (eCall m__law_rank (aCons (eCall m__law_whole_word (aCons (eVar 3) aNil)) aNil))) (f := eLR) (ρ := [some (.lst (X.map eLR)), y1, none, none, none, none]) (c := fun _ => true) (h := fun p => rkE p.1) X (by
    intro p hp
    obtain ⟨h1, h2⟩ := hX p hp
    have ww := whole_word_ok h1 h2
    have lr := law_rank_ok p.1
    refine ⟨[some (.lst (X.map eLR)), y1, none, some (.tup ((rowW (natW p.1)).map eW.en)), some (eRat.en p.2), none], rfl, [some (.lst (X.map eLR)), y1, none, some (.tup ((rowW (natW p.1)).map eW.en)), some (eRat.en p.2), none], rfl, (fun z => by cases z), fun _ => ⟨[some (.lst (X.map eLR)), y1, none, some (.tup ((rowW (natW p.1)).map eW.en)), some (eRat.en p.2), none], ?_, rfl⟩⟩
    generalize X.map eLR = XM at *
    generalize (rowW (natW p.1)).map eW.en = RM at *
    generalize eRat.en p.2 = EQ at *
    generalize eWord.en p.1 = WE at *
    generalize rkE p.1 = RK at *
    simp (disch := first | assumption | decide | omega) only [runF, m0, sSeq, sSet, sIf, sRet, sRetN, sExpr, sSkip_ok, sSetA, sSetIx, sFor, sPar, sBind, sAug, eVar, eCon_ok, eOp2, eOp1, eCall, eCallM, eCallT, eTup, eLst, eArg, eIf, tVal, tNotF, tAndF, tOrF, eB, eAndF, eOrF, eNotF, eIxA, eIxO, eCatO, ixA_lst, ixA_tup, ixA_scr, eDNew, eDGet, eDGetO, eDPop, eSortK, eMM, aHoleQ, aHole, aNil_ok, aCons, oNone_ok, oSome, eSlice, eSliceL, iSeqA, iSeq, iRange, iArg, ePeek, tPeek, eOwnM, tYes_ok, bind_ok, bind_exc, bind_stuck, of_some, flatD, SW.gName, List.getD_cons_zero, List.getD_cons_succ, List.set_cons_zero, List.set_cons_succ, List.map_cons, List.map_nil, List.length_cons, List.length_nil, List.cons_append, List.nil_append, List.replicate, Nat.reduceAdd, Nat.reduceSub, addD_int, subD_int, negD_int, repD_int, modD_int, fdivD_int, ltA_int, leA_int, gtA_int, geA_int, eqD_int, neD_int, pow_10_18, pow_10_60, ww, lr])
  rw [List.filter_eq_self.mpr (fun _ _ => rfl)] at cm1
  have ln : lenA [.lst (X.map fun p => rkE p.1)] = some (.int ((X.length : Nat) : Int)) := by
    show some (D.int (((X.map fun p => rkE p.1).length : Nat) : Int)) = _
    rw [List.length_map]
  have rg := range_from1 hl
  have cm2 := fun (y1 : Option D) => compL_of (vs := [5]) (b := gName 5) (tt := (tVal (eOp2 leA (eOp2 ixA (eVar 2) (eVar 5)) (eOp2 ixA (eVar 2) (eOp2 subD (eVar 5) (eCon (.int 1))))))) (fe := (eVar 5)) (f := fun k : Nat => D.int (1 + ((k : Nat) : Int))) (ρ := [some (.lst (X.map eLR)), y1, some (.lst (X.map fun p => rkE p.1)), none, none, none]) (c := fun k => !rkLt (X.getD k ([], 0)).1 (X.getD (k + 1) ([], 0)).1) (h := fun k : Nat => D.int (1 + ((k : Nat) : Int))) (List.range (X.length - 1)) (by
    intro k hk
    have hk := List.mem_range.mp hk
    have x1 := ix_lm (fun p : Wd × Rat => rkE p.1) X ([], 0) (i := k + 1) (by omega)
    have x2 := ix_lm (fun p : Wd × Rat => rkE p.1) X ([], 0) (i := k) (by omega)
    have e1 : (1 : Int) + ((k : Nat) : Int) = (((k + 1 : Nat)) : Int) := by omega
    have e2 : (((k + 1 : Nat)) : Int) - 1 = ((k : Nat) : Int) := by omega
    have la := le_rk (X.getD (k + 1) ([], 0)).1 (X.getD k ([], 0)).1
    refine ⟨[some (.lst (X.map eLR)), y1, some (.lst (X.map fun p => rkE p.1)), none, none, some (.int (1 + ((k : Nat) : Int)))], rfl, [some (.lst (X.map eLR)), y1, some (.lst (X.map fun p => rkE p.1)), none, none, some (.int (1 + ((k : Nat) : Int)))], ?_, (fun _ => rfl), fun _ => ⟨[some (.lst (X.map eLR)), y1, some (.lst (X.map fun p => rkE p.1)), none, none, some (.int (1 + ((k : Nat) : Int)))], rfl, rfl⟩⟩
    rw [e1]
    generalize ((k + 1 : Nat) : Int) = K1 at *
    generalize ((k : Nat) : Int) = K0 at *
    simp only [ixA_lst] at x1 x2
    generalize (X.map fun p => rkE p.1) = RM at *
    generalize X.map eLR = XM at *
    simp (disch := first | assumption | decide | omega) only [runF, m0, sSeq, sSet, sIf, sRet, sRetN, sExpr, sSkip_ok, sSetA, sSetIx, sFor, sPar, sBind, sAug, eVar, eCon_ok, eOp2, eOp1, eCall, eCallM, eCallT, eTup, eLst, eArg, eIf, tVal, tNotF, tAndF, tOrF, eB, eAndF, eOrF, eNotF, eIxA, eIxO, eCatO, ixA_lst, ixA_tup, ixA_scr, eDNew, eDGet, eDGetO, eDPop, eSortK, eMM, aHoleQ, aHole, aNil_ok, aCons, oNone_ok, oSome, eSlice, eSliceL, iSeqA, iSeq, iRange, iArg, ePeek, tPeek, eOwnM, tYes_ok, bind_ok, bind_exc, bind_stuck, of_some, flatD, SW.gName, List.getD_cons_zero, List.getD_cons_succ, List.set_cons_zero, List.set_cons_succ, List.map_cons, List.map_nil, List.length_cons, List.length_nil, List.cons_append, List.nil_append, List.replicate, Nat.reduceAdd, Nat.reduceSub, addD_int, subD_int, negD_int, repD_int, modD_int, fdivD_int, ltA_int, leA_int, gtA_int, geA_int, eqD_int, neD_int, pow_10_18, pow_10_60, x1, x2, e2, la])
  rw [filter_none fun k hk => by
    have hk := List.mem_range.mp hk
    have := rising_at s.up (i := k) (by omega) ([], 0)
    rw [this]
    rfl] at cm2
  rw [List.map_nil] at cm2
  have q0 := eq_nil0
  generalize (List.range (X.length - 1)).map (fun k : Nat => D.int (1 + ((k : Nat) : Int))) = RG at *
  generalize (X.map fun p => rkE p.1) = RM at *
  generalize X.map eLR = XM at *
  simp (disch := first | assumption | decide | omega) only [m__law_form_right, b__law_form_right, runF, m0, sSeq, sSet, sIf, sRet, sRetN, sExpr, sSkip_ok, sSetA, sSetIx, sFor, sPar, sBind, sAug, eVar, eCon_ok, eOp2, eOp1, eCall, eCallM, eCallT, eTup, eLst, eArg, eIf, tVal, tNotF, tAndF, tOrF, eB, eAndF, eOrF, eNotF, eIxA, eIxO, eCatO, ixA_lst, ixA_tup, ixA_scr, eDNew, eDGet, eDGetO, eDPop, eSortK, eMM, aHoleQ, aHole, aNil_ok, aCons, oNone_ok, oSome, eSlice, eSliceL, iSeqA, iSeq, iRange, iArg, ePeek, tPeek, eOwnM, tYes_ok, bind_ok, bind_exc, bind_stuck, of_some, flatD, SW.gName, List.getD_cons_zero, List.getD_cons_succ, List.set_cons_zero, List.set_cons_succ, List.map_cons, List.map_nil, List.length_cons, List.length_nil, List.cons_append, List.nil_append, List.replicate, Nat.reduceAdd, Nat.reduceSub, addD_int, subD_int, negD_int, repD_int, modD_int, fdivD_int, ltA_int, leA_int, gtA_int, geA_int, eqD_int, neD_int, pow_10_18, pow_10_60, i0, it, e, ln, rg, eComp, cm1, cm2, q0, Bool.not_true, Bool.false_eq_true, if_false]

/-! rows as keys; the law k55 -/
def kR (w : Wd) : NestedKey := .tup ((rowW (natW w)).map fun u => wk (ofN u))
theorem keyD_w (u : List Nat) : keyD (eW.en u) = some (wk (ofN u)) := by
  have h := keyT_word (ofN u)
  obtain ⟨ds, e1, e2, _⟩ := keyT_some h
  rw [eW_int]
  show keyD (eWord.en (ofN u)) = _
  rw [e1]
  exact e2
theorem keyDs_w : ∀ R : List (List Nat), keyDs (R.map eW.en) = some (R.map fun u => wk (ofN u))
  | [] => rfl
  | u :: R => by
    show (match keyD (eW.en u), keyDs (R.map eW.en) with
      | some k, some ks => some (k :: ks)
      | _, _ => none) = _
    rw [keyD_w, keyDs_w R]
    rfl
theorem depth_rows : ∀ R : List (List Nat), NestedKey.depthAll (R.map fun u => wk (ofN u)) ≤ 1
  | [] => Nat.zero_le _
  | u :: R => by
    show max (NestedKey.depth (.tup ((ofN u).map .num))) (NestedKey.depthAll (R.map fun u => wk (ofN u))) ≤ 1
    have h1 := depth_rows R
    have h2 : NestedKey.depth (.tup ((ofN u).map .num)) = 1 := by
      show NestedKey.depthAll ((ofN u).map NestedKey.num) + 1 = 1
      rw [depth_nums]
    omega
theorem keyT_row (w : Wd) : keyT (.tup ((rowW (natW w)).map eW.en)) = some (kR w) := by
  refine keyT_of ?_ ?_
  · show (match keyDs ((rowW (natW w)).map eW.en) with
      | some ks => some (NestedKey.tup ks)
      | none => none) = _
    rw [keyDs_w]
    rfl
  · show NestedKey.depthAll ((rowW (natW w)).map fun u => wk (ofN u)) + 1 ≤ 8
    have := depth_rows (rowW (natW w))
    omega
theorem keyB_row (w : Wd) : keyB (kR w) = .tup ((rowW (natW w)).map eW.en) := keyT_B (keyT_row w)
theorem wk_inj {a b : Wd} (h : wk a = wk b) : a = b := of_decide_eq_true (by rw [← dec_wk]; exact decide_eq_true h)
theorem kR_inj {u w : Wd} (hu : u.length ≤ 5 ∧ ∀ x ∈ u, 0 ≤ x ∧ x < 4) (hw : w.length ≤ 5 ∧ ∀ x ∈ w, 0 ≤ x ∧ x < 4) (h : kR u = kR w) : u = w := by
  have h1 := NestedKey.tup.inj h
  have h2 : rowW (natW u) = rowW (natW w) := (List.map_inj_right (f := fun u => wk (ofN u)) fun x y e => ofN_inj (wk_inj e)).mp h1
  have h3 : natW u = natW w := by rw [← (chr_all (let_nat hu.1 hu.2)).2.1, h2, (chr_all (let_nat hw.1 hw.2)).2.1]
  exact natW_inj hu.2 hw.2 h3
def dK (l : SumT) : List (NestedKey × D) := l.map fun p => (kR p.1, eRat.en p.2)
theorem valD_K (w : Wd) : ∀ l : SumT, (∀ p ∈ l, kR p.1 = kR w → p.1 = w) → valD (dK l) (kR w) = (getT l w).map eRat.en
  | [], _ => rfl
  | p :: l, h => by
    have ih := valD_K w l fun q hq => h q (List.mem_cons_of_mem _ hq)
    have hd : decide (kR p.1 = kR w) = decide (p.1 = w) := by
      rw [Bool.eq_iff_iff, decide_eq_true_iff, decide_eq_true_iff]
      exact ⟨h p (by simp), fun z => by rw [z]⟩
    unfold valD getT dK at *
    rw [List.map_cons, List.find?_cons, List.find?_cons]
    dsimp only
    rw [hd]
    cases decide (p.1 = w)
    · exact ih
    · rfl
theorem putD_K (w : Wd) (q : Rat) (l : SumT) (h : ∀ p ∈ l, kR p.1 = kR w → p.1 = w) : putD (dK l) (kR w) (eRat.en q) = dK (setT l w q) := by
  unfold putD setT
  rw [valD_K w l h, Option.isSome_map]
  split
  · unfold dK
    rw [List.map_map, List.map_map]
    refine List.map_congr_left fun p hp => ?_
    show (if kR p.1 = kR w then (kR p.1, eRat.en q) else (kR p.1, eRat.en p.2)) = _
    by_cases e : p.1 = w
    · rw [if_pos (by rw [e])]
      show _ = (fun p : Wd × Rat => (kR p.1, eRat.en p.2)) (if p.1 = w then (p.1, q) else p)
      rw [if_pos e]
    · rw [if_neg fun z => e (h p hp z)]
      show _ = (fun p : Wd × Rat => (kR p.1, eRat.en p.2)) (if p.1 = w then (p.1, q) else p)
      rw [if_neg e]
  · unfold dK
    rw [List.map_append]
    rfl
structure RowsB (c j : Nat) (l : SumT) : Prop where
  nd : (l.map (·.1)).Nodup
  wd : ∀ p ∈ l, p.1.length ≤ 5 ∧ ∀ x ∈ p.1, 0 ≤ x ∧ x < (c : Int)
  bd : ∀ p ∈ l, Bd 2520 1000 p.2
  sz : l.length ≤ j
theorem RowsB.set {c j : Nat} {l : SumT} (h : RowsB c j l) {w : Wd} {q : Rat} (h5 : w.length ≤ 5) (hw : ∀ x ∈ w, 0 ≤ x ∧ x < (c : Int)) (hq : Bd 2520 1000 q) : RowsB c (j + 1) (setT l w q) := by
  refine ⟨nodup_set h.nd, fun p hp => ?_, fun p hp => ?_, Nat.le_trans (set_len _ _ _) (Nat.add_le_add_right h.sz 1)⟩
  · rcases mem_set hp with e | hp
    · rw [e]; exact ⟨h5, hw⟩
    · exact h.wd p hp
  · rcases mem_set hp with e | hp
    · rw [e]; exact hq
    · exact h.bd p hp
theorem rows_turn {c : Nat} (c1 : 1 ≤ c) (c4 : c ≤ 4) {n j : Nat} {p : D} {l : SumT} (h : RowsB c j l) (hj : j ≤ 100) (hp : Ps (n + 9) p) (y3 y4 : Option D) :
    ∃ (l' : SumT) (p' : D), (sSetA 2 (eCallM m__law_few 0 0 (aHoleQ 0 aNil)) (eArg tupleD (aCons (eCall m_fallen (aCons (eCallM m__law_word 0 0 (aHoleQ 0 (aCons (eVar 1) (aCons (eCon (.int 5)) aNil)))) aNil)) aNil))) [some p, some (.int ((c : Nat) : Int)), some (.dct (dK l)), y3, y4] = .ok (.nx [some p', some (.int ((c : Nat) : Int)), some (.dct (dK l')), y3, y4]) ∧ RowsB c (j + 1) l' ∧ Ps n p' := by
  obtain ⟨q, p1, e1, hq, hp1⟩ := law_few_ok (n := n + 6) (hp.mono (by omega))
  obtain ⟨w, p2, e2, w1, w2, hp2⟩ := law_word_ok (n := n) (k := 5) c1 (by omega) (by omega) hp1
  have e2 : m__law_word [p1, .int ((c : Nat) : Int), .int 5] = .ok (eWord.en w, p2) := e2
  have w4 : ∀ x ∈ w, 0 ≤ x ∧ x < 4 := fun x hx => by have := w2 x hx; omega
  have hlet := let_nat w1 w4
  have fo : m_fallen [eWord.en w] = .ok (eWs.en (rowW (natW w)), .non) := by
    rw [en_nat fun x hx => (w2 x hx).1]
    exact fallen_ok hlet
  have td : tupleD [eWs.en (rowW (natW w))] = some (.tup ((rowW (natW w)).map eW.en)) := rfl
  have kt := keyT_row w
  have inj : ∀ p ∈ l, kR p.1 = kR w → p.1 = w := fun p hp e => kR_inj ⟨(h.wd p hp).1, fun x hx => by have := (h.wd p hp).2 x hx; omega⟩ ⟨w1, w4⟩ e
  have pd := putD_K w q l inj
  have hs : (dK l).length < sizeLine := by
    unfold dK
    rw [List.length_map]
    exact len_small (by have := h.sz; omega)
  refine ⟨setT l w q, p2, ?_, h.set w1 w2 hq, hp2⟩
  generalize dK (setT l w q) = D2 at *
  generalize dK l = D1 at *
  generalize kR w = KW at *
  generalize (rowW (natW w)).map eW.en = RM at *
  generalize eWs.en (rowW (natW w)) = RW at *
  generalize eWord.en w = WE at *
  generalize eRat.en q = QE at *
  simp (disch := first | assumption | decide | omega) only [runF, m0, sSeq, sSet, sIf, sRet, sRetN, sExpr, sSkip_ok, sSetA, sSetIx, sFor, sPar, sBind, sAug, eVar, eCon_ok, eOp2, eOp1, eCall, eCallM, eCallT, eTup, eLst, eArg, eIf, tVal, tNotF, tAndF, tOrF, eB, eAndF, eOrF, eNotF, eIxA, eIxO, eCatO, ixA_lst, ixA_tup, ixA_scr, eDNew, eDGet, eDGetO, eDPop, eSortK, eMM, aHoleQ, aHole, aNil_ok, aCons, oNone_ok, oSome, eSlice, eSliceL, iSeqA, iSeq, iRange, iArg, ePeek, tPeek, eOwnM, tYes_ok, bind_ok, bind_exc, bind_stuck, of_some, flatD, SW.gName, List.getD_cons_zero, List.getD_cons_succ, List.set_cons_zero, List.set_cons_succ, List.map_cons, List.map_nil, List.length_cons, List.length_nil, List.cons_append, List.nil_append, List.replicate, Nat.reduceAdd, Nat.reduceSub, addD_int, subD_int, negD_int, repD_int, modD_int, fdivD_int, ltA_int, leA_int, gtA_int, geA_int, eqD_int, neD_int, pow_10_18, pow_10_60, e1, e2, fo, td, kt, hs, if_true, pd, Option.bind_some, Option.getD_some]
theorem rows_loop {c : Nat} (c1 : 1 ≤ c) (c4 : c ≤ 4) : ∀ (r : List Nat) (n j : Nat) (p : D) (l : SumT) (y3 y4 : Option D), RowsB c j l → j + r.length ≤ 100 → Ps (n + r.length * 9) p →
    ∃ (l' : SumT) (p' : D) (z3 : Option D), forL (gName 3) ((sSetA 2 (eCallM m__law_few 0 0 (aHoleQ 0 aNil)) (eArg tupleD (aCons (eCall m_fallen (aCons (eCallM m__law_word 0 0 (aHoleQ 0 (aCons (eVar 1) (aCons (eCon (.int 5)) aNil)))) aNil)) aNil)))) (r.map fun i : Nat => D.int ((i : Nat) : Int)) [some p, some (.int ((c : Nat) : Int)), some (.dct (dK l)), y3, y4] = .ok (.nx [some p', some (.int ((c : Nat) : Int)), some (.dct (dK l')), z3, y4]) ∧ RowsB c (j + r.length) l' ∧ Ps n p'
  | [], n, j, p, l, y3, y4, h, _, hp => ⟨l, p, y3, rfl, h, by simpa using hp⟩
  | i :: r, n, j, p, l, y3, y4, h, hj, hp => by
    rw [List.length_cons] at hj hp
    obtain ⟨l1, p1, e1, h1, hp1⟩ := rows_turn c1 c4 (n := n + r.length * 9) h (by omega) (hp.mono (by omega)) (some (.int ((i : Nat) : Int))) y4
    obtain ⟨l2, p2, z3, e2, h2, hp2⟩ := rows_loop c1 c4 r n (j + 1) p1 l1 (some (.int ((i : Nat) : Int))) y4 h1 (by omega) hp1
    refine ⟨l2, p2, z3, ?_, by rw [List.length_cons]; exact ⟨h2.nd, h2.wd, h2.bd, by have := h2.sz; omega⟩, hp2⟩
    rw [← e2, List.map_cons]
    conv => lhs; unfold forL
    have gn : gName 3 (.int ((i : Nat) : Int)) [some p, some (.int ((c : Nat) : Int)), some (.dct (dK l)), y3, y4] = some [some p, some (.int ((c : Nat) : Int)), some (.dct (dK l)), some (.int ((i : Nat) : Int)), y4] := rfl
    rw [gn]
    dsimp only
    rw [e1, bind_ok]
theorem rows_drawn_ok {c : Nat} (c1 : 1 ≤ c) (c4 : c ≤ 4) {n : Nat} {p : D} (hp : Ps (n + 40) p) : ∃ (Y : SumT) (p' : D), m__law_rows_drawn [p, .int ((c : Nat) : Int)] = .ok (.lst (Y.map eLR), p') ∧ RowsB c 3 Y ∧ (∀ p ∈ Y, p.2 ≠ 0) ∧ Ps n p' := by
  obtain ⟨g1, p1, e1, g10, g11, hp1⟩ := take_ok (n := n + 39) (many := 3) hp (by decide) (by decide)
  obtain ⟨k, hk, k3⟩ : ∃ k : Nat, (1 : Int) + g1 = ((k : Nat) : Int) ∧ k ≤ 3 := ⟨((1 : Int) + g1).toNat, by omega, by omega⟩
  have hr := rangeD1 (j := ((k : Nat) : Int)) (by omega) (by omega)
  rw [Int.toNat_natCast] at hr
  obtain ⟨l, p2, z3, el, h, hp2⟩ := rows_loop c1 c4 (List.range k) n 0 p1 [] none none ⟨List.nodup_nil, by simp, by simp, Nat.le_refl _⟩ (by rw [List.length_range]; omega) (hp1.mono (by rw [List.length_range]; omega))
  have en : D.dct [] = .dct (dK []) := rfl
  have it : itemsA (.dct (dK l)) = some (l.map fun p => .tup ((rowW (natW p.1)).map eW.en)) := by
    show some ((dK l).map fun p => keyB p.1) = _
    unfold dK
    rw [List.map_map]
    congr 1
    exact List.map_congr_left fun p _ => keyB_row p.1
  have cm := compL_of (vs := [4]) (b := gName 4) (tt := (tVal (eOp2 neD (eOp2 ixA (eOp2 ixA (eVar 2) (eVar 4)) (eCon (.int 0))) (eCon (.int 0))))) (fe := (eTup (aCons (eVar 4) (aCons (eOp2 ixA (eVar 2) (eVar 4)) aNil)))) (f := fun p : Wd × Rat => .tup ((rowW (natW p.1)).map eW.en)) (ρ := [some p2, some (.int ((c : Nat) : Int)), some (.dct (dK l)), z3, none]) (c := fun p => !decide (p.2.num = 0)) (h := eLR) l (by
    intro p hp
    have inj : ∀ q ∈ l, kR q.1 = kR p.1 → q.1 = p.1 := fun q hq e => kR_inj ⟨(h.wd q hq).1, fun x hx => by have := (h.wd q hq).2 x hx; omega⟩ ⟨(h.wd p hp).1, fun x hx => by have := (h.wd p hp).2 x hx; omega⟩ e
    have ix : ixA (.dct (dK l)) (.tup ((rowW (natW p.1)).map eW.en)) = some (eRat.en p.2) := by
      show (keyT (.tup ((rowW (natW p.1)).map eW.en))).bind (valD (dK l)) = _
      rw [keyT_row]
      show valD (dK l) (kR p.1) = _
      rw [valD_K p.1 l inj, getT_of_mem h.nd (q := p.2) hp]
      rfl
    have q0 := r0 p.2
    have el : eLR p = .tup [.tup ((rowW (natW p.1)).map eW.en), eRat.en p.2] := rfl
    refine ⟨[some p2, some (.int ((c : Nat) : Int)), some (.dct (dK l)), z3, some (.tup ((rowW (natW p.1)).map eW.en))], rfl, [some p2, some (.int ((c : Nat) : Int)), some (.dct (dK l)), z3, some (.tup ((rowW (natW p.1)).map eW.en))], ?_, (fun _ => rfl), fun _ => ⟨[some p2, some (.int ((c : Nat) : Int)), some (.dct (dK l)), z3, some (.tup ((rowW (natW p.1)).map eW.en))], ?_, rfl⟩⟩
    · generalize (rowW (natW p.1)).map eW.en = RM at *
      generalize dK l = D1 at *
      generalize eRat.en p.2 = QE at *
      simp (disch := first | assumption | decide | omega) only [runF, m0, sSeq, sSet, sIf, sRet, sRetN, sExpr, sSkip_ok, sSetA, sSetIx, sFor, sPar, sBind, sAug, eVar, eCon_ok, eOp2, eOp1, eCall, eCallM, eCallT, eTup, eLst, eArg, eIf, tVal, tNotF, tAndF, tOrF, eB, eAndF, eOrF, eNotF, eIxA, eIxO, eCatO, ixA_lst, ixA_tup, ixA_scr, eDNew, eDGet, eDGetO, eDPop, eSortK, eMM, aHoleQ, aHole, aNil_ok, aCons, oNone_ok, oSome, eSlice, eSliceL, iSeqA, iSeq, iRange, iArg, ePeek, tPeek, eOwnM, tYes_ok, bind_ok, bind_exc, bind_stuck, of_some, flatD, SW.gName, List.getD_cons_zero, List.getD_cons_succ, List.set_cons_zero, List.set_cons_succ, List.map_cons, List.map_nil, List.length_cons, List.length_nil, List.cons_append, List.nil_append, List.replicate, Nat.reduceAdd, Nat.reduceSub, addD_int, subD_int, negD_int, repD_int, modD_int, fdivD_int, ltA_int, leA_int, gtA_int, geA_int, eqD_int, neD_int, pow_10_18, pow_10_60, ix, q0]
    · rw [el]
      generalize (rowW (natW p.1)).map eW.en = RM at *
      generalize dK l = D1 at *
      generalize eRat.en p.2 = QE at *
      simp (disch := first | assumption | decide | omega) only [runF, m0, sSeq, sSet, sIf, sRet, sRetN, sExpr, sSkip_ok, sSetA, sSetIx, sFor, sPar, sBind, sAug, eVar, eCon_ok, eOp2, eOp1, eCall, eCallM, eCallT, eTup, eLst, eArg, eIf, tVal, tNotF, tAndF, tOrF, eB, eAndF, eOrF, eNotF, eIxA, eIxO, eCatO, ixA_lst, ixA_tup, ixA_scr, eDNew, eDGet, eDGetO, eDPop, eSortK, eMM, aHoleQ, aHole, aNil_ok, aCons, oNone_ok, oSome, eSlice, eSliceL, iSeqA, iSeq, iRange, iArg, ePeek, tPeek, eOwnM, tYes_ok, bind_ok, bind_exc, bind_stuck, of_some, flatD, SW.gName, List.getD_cons_zero, List.getD_cons_succ, List.set_cons_zero, List.set_cons_succ, List.map_cons, List.map_nil, List.length_cons, List.length_nil, List.cons_append, List.nil_append, List.replicate, Nat.reduceAdd, Nat.reduceSub, addD_int, subD_int, negD_int, repD_int, modD_int, fdivD_int, ltA_int, leA_int, gtA_int, geA_int, eqD_int, neD_int, pow_10_18, pow_10_60, ix])
  refine ⟨l.filter fun p => !decide (p.2.num = 0), p2, ?_, ⟨h.nd.sublist ((List.filter_sublist).map _), fun p hp => h.wd p (List.mem_filter.mp hp).1, fun p hp => h.bd p (List.mem_filter.mp hp).1, Nat.le_trans (List.length_filter_le _ _) (Nat.le_trans h.sz (by rw [List.length_range]; omega))⟩, fun p hp z => ?_, hp2⟩
  · generalize (l.filter fun p => !decide (p.2.num = 0)).map eLR = YM at *
    generalize (l.map fun p : Wd × Rat => D.tup ((rowW (natW p.1)).map eW.en)) = LM at *
    generalize (List.range k).map (fun i : Nat => D.int ((i : Nat) : Int)) = RK at *
    have el : forL _ _ RK [some p1, some (.int ((c : Nat) : Int)), some (.dct []), none, none] = _ := el
    generalize dK l = D1 at *
    simp (disch := first | assumption | decide | omega) only [m__law_rows_drawn, b__law_rows_drawn, runF, m0, sSeq, sSet, sIf, sRet, sRetN, sExpr, sSkip_ok, sSetA, sSetIx, sFor, sPar, sBind, sAug, eVar, eCon_ok, eOp2, eOp1, eCall, eCallM, eCallT, eTup, eLst, eArg, eIf, tVal, tNotF, tAndF, tOrF, eB, eAndF, eOrF, eNotF, eIxA, eIxO, eCatO, ixA_lst, ixA_tup, ixA_scr, eDNew, eDGet, eDGetO, eDPop, eSortK, eMM, aHoleQ, aHole, aNil_ok, aCons, oNone_ok, oSome, eSlice, eSliceL, iSeqA, iSeq, iRange, iArg, ePeek, tPeek, eOwnM, tYes_ok, bind_ok, bind_exc, bind_stuck, of_some, flatD, SW.gName, List.getD_cons_zero, List.getD_cons_succ, List.set_cons_zero, List.set_cons_succ, List.map_cons, List.map_nil, List.length_cons, List.length_nil, List.cons_append, List.nil_append, List.replicate, Nat.reduceAdd, Nat.reduceSub, addD_int, subD_int, negD_int, repD_int, modD_int, fdivD_int, ltA_int, leA_int, gtA_int, geA_int, eqD_int, neD_int, pow_10_18, pow_10_60, e1, hk, hr, el, it, eComp, cm, Option.getD_some]
  · have := (List.mem_filter.mp hp).2
    rw [z] at this
    exact absurd this (by decide)
/-- sorted by a word's rank -/
theorem sortK_gen {α : Type} {m : List D → Out (D × D)} (f : α → D) (g : α → Wd) (as : List α) (hm : ∀ a ∈ as, m [f a] = .ok (rkE (g a), .non)) : sortK m (as.map f) = some ((as.mergeSort fun a b => rkLe (g a) (g b)).map f) := by
  have hk : ∀ as : List α, (∀ a ∈ as, m [f a] = .ok (rkE (g a), .non)) → keysOf m (as.map f) = some (as.map fun a => (rkE (g a), rkKey (g a))) := by
    intro as
    induction as with
    | nil => intro _; rfl
    | cons a as ih =>
      intro h
      rw [List.map_cons]
      unfold keysOf
      rw [h a (by simp)]
      dsimp only
      rw [rkE_py, ih fun b hb => h b (List.mem_cons_of_mem _ hb)]
      rfl
  unfold sortK
  rw [hk as hm]
  dsimp only
  have e : (as.map fun a => (rkE (g a), rkKey (g a))).map (·.2) = (as.map g).map rkKey := by rw [List.map_map, List.map_map]; rfl
  rw [e, rk_sortable, if_pos rfl]
  congr 1
  refine (List.map_mergeSort (r := fun a b => rkLe (g a) (g b)) (s := PySem.W.dataLe false (keyFn m)) (f := f) (l := as) fun a ha b hb => ?_).symm
  have kf : ∀ a ∈ as, keyFn m (f a) = rkKey (g a) := fun a ha => by
    unfold keyFn
    rw [hm a ha]
    dsimp only
    rw [rkE_py]
  show rkLe (g a) (g b) = !PySem.W.dataLt (keyFn m (f b)) (keyFn m (f a))
  rw [kf a ha, kf b hb, rkKey_lt]
  rfl
theorem whole_rank_ok {p : Wd × Rat} (h5 : p.1.length ≤ 5) (h : ∀ x ∈ p.1, 0 ≤ x ∧ x < 4) : m__law_whole_rank [eLR p] = .ok (rkE p.1, .non) := by
  have x0 : ixA (eLR p) (.int 0) = some (.tup ((rowW (natW p.1)).map eW.en)) := rfl
  have ww := whole_word_ok h5 h
  have lr := law_rank_ok p.1
  generalize eLR p = EP at *
  generalize (rowW (natW p.1)).map eW.en = RM at *
  generalize eWord.en p.1 = WE at *
  generalize rkE p.1 = RK at *
  simp (disch := first | assumption | decide | omega) only [m__law_whole_rank, b__law_whole_rank, runF, m0, sSeq, sSet, sIf, sRet, sRetN, sExpr, sSkip_ok, sSetA, sSetIx, sFor, sPar, sBind, sAug, eVar, eCon_ok, eOp2, eOp1, eCall, eCallM, eCallT, eTup, eLst, eArg, eIf, tVal, tNotF, tAndF, tOrF, eB, eAndF, eOrF, eNotF, eIxA, eIxO, eCatO, ixA_lst, ixA_tup, ixA_scr, eDNew, eDGet, eDGetO, eDPop, eSortK, eMM, aHoleQ, aHole, aNil_ok, aCons, oNone_ok, oSome, eSlice, eSliceL, iSeqA, iSeq, iRange, iArg, ePeek, tPeek, eOwnM, tYes_ok, bind_ok, bind_exc, bind_stuck, of_some, flatD, SW.gName, List.getD_cons_zero, List.getD_cons_succ, List.set_cons_zero, List.set_cons_succ, List.map_cons, List.map_nil, List.length_cons, List.length_nil, List.cons_append, List.nil_append, List.replicate, Nat.reduceAdd, Nat.reduceSub, addD_int, subD_int, negD_int, repD_int, modD_int, fdivD_int, ltA_int, leA_int, gtA_int, geA_int, eqD_int, neD_int, pow_10_18, pow_10_60, x0, ww, lr]
def srtR (Y : SumT) : SumT := Y.mergeSort fun a b => rkLe a.1 b.1
theorem srtR_sm {Y : SumT} (nd : (Y.map (·.1)).Nodup) (nz : ∀ p ∈ Y, p.2 ≠ 0) : Sm (srtR Y) ∧ (srtR Y).Perm Y := by
  have pm : (srtR Y).Perm Y := List.mergeSort_perm _ _
  refine ⟨⟨?_, fun p hp => nz p (pm.mem_iff.mp hp)⟩, pm⟩
  have e : (srtR Y).map (·.1) = (Y.map (·.1)).mergeSort rkLe := List.map_mergeSort (r := fun a b : Wd × Rat => rkLe a.1 b.1) (s := rkLe) (f := fun p : Wd × Rat => p.1) (l := Y) fun _ _ _ _ => rfl
  rw [e]
  exact rising_sort nd
abbrev bCell : Rho → Out Fl := (sSeq (sSet 2 (eCall m__law_purse (aCons (eVar 1) (aCons (eCon (.int 55)) aNil)))) (sSeq (sSet 3 (eOp2 addD (eCon (.int 1)) (eCallM m__law_take 0 2 (aHoleQ 2 (aCons (eCon (.int 4)) aNil))))) (sSeq (sSet 4 (eCallM m__law_rows_drawn 0 2 (aHoleQ 2 (aCons (eVar 3) aNil)))) (sSeq (sSet 5 (eCallM m__law_take 0 2 (aHoleQ 2 (aCons (eCon (.int 2)) aNil)))) (sSeq (sSet 6 (eOp2 ixA (eLst (aCons (eCallM m__law_sum 0 2 (aHoleQ 2 (aCons (eVar 3) (aCons (eCon (.int 5)) (aCons (eCon (.int 5)) aNil))))) (aCons (eCall m__law_all (aCons (eVar 4) aNil)) aNil))) (eVar 5))) (sSeq (sSet 7 (eCall m__law_told (aCons (eVar 6) aNil))) (sSeq (sSet 8 (eCall m_told_by_least (aCons (eVar 3) (aCons (eVar 7) aNil)))) (sSeq (sIf (tPeek (tOrF (tNotF (tVal (eCall m__law_form_right (aCons (eVar 8) aNil)))) (tOrF (tVal (eOp2 neX (eCall m__law_all (aCons (eVar 8) aNil)) (eVar 6))) (tVal (eOp2 neD (eVar 7) (eCall m__law_told (aCons (eVar 6) aNil))))))) (sRet (eCon (.bl false))) sSkip) (sSeq (sIf (tPeek (tAndF (tVal (eOp2 eqD (eVar 5) (eCon (.int 1)))) (tVal (eOp2 neD (eVar 8) (eSortK m__law_whole_rank (eVar 4)))))) (sRet (eCon (.bl false))) sSkip) (sSeq (sSet 9 (eArg listD (aCons (eVar 8) aNil))) (sSeq (sExpr (eOwnM uClear 8 aNil)) (sIf (tOrF (tVal (eOp2 neD (eCall m_told_by_least (aCons (eVar 3) (aCons (eVar 7) aNil))) (eVar 9))) (tVal (eOp2 neD (eVar 7) (eCall m__law_told (aCons (eVar 6) aNil))))) (sRet (eCon (.bl false))) sSkip))))))))))))
theorem cell_ok (i : Int) (y0 y2 y3 y4 y5 y6 y7 y8 y9 : Option D) : ∃ z2 z3 z4 z5 z6 z7 z8 z9, bCell [y0, some (.int i), y2, y3, y4, y5, y6, y7, y8, y9] = .ok (.nx [y0, some (.int i), z2, z3, z4, z5, z6, z7, z8, z9]) := by
  obtain ⟨p, e1, hp⟩ := purse_ok i 55 (by decide) (by decide)
  obtain ⟨g1, p1, t1, g10, g11, hp1⟩ := take_ok (n := 500) (many := 4) (hp.mono (by decide)) (by decide) (by decide)
  obtain ⟨c, ec, c1, c4⟩ : ∃ c : Nat, 1 + g1 = ((c : Nat) : Int) ∧ 1 ≤ c ∧ c ≤ 4 := ⟨(1 + g1).toNat, by omega, by omega, by omega⟩
  obtain ⟨Y, p2, e2, hY, nzY, hp2⟩ := rows_drawn_ok c1 c4 (n := 200) (hp1.mono (by decide))
  obtain ⟨g2, p3, t2, g20, g21, hp3⟩ := take_ok (n := 199) (many := 2) hp2 (by decide) (by decide)
  obtain ⟨l0, p4, e3, h0, hp4⟩ := law_sum_ok (n := 100) (c := c) (k := 5) (many := 5) c1 (by omega) (by decide) (by decide) (hp3.mono (by decide))
  have e3 : m__law_sum [p3, .int ((c : Nat) : Int), .int 5, .int 5] = .ok (dS l0, p4) := e3
  have wY : ∀ p ∈ Y, p.1.length ≤ 5 ∧ ∀ x ∈ p.1, 0 ≤ x ∧ x < 4 := fun p hp => ⟨(hY.wd p hp).1, fun x hx => by have := (hY.wd p hp).2 x hx; omega⟩
  have szY := hY.sz
  obtain ⟨e4, a4⟩ := law_all_ok (b := 10) (c := c) (by decide) c4 (X := Y) (fun p hp => ⟨(hY.wd p hp).1, (hY.wd p hp).2, (hY.bd p hp).mono (by decide)⟩) (by omega)
  have linY := fun f => lin_all wY f
  generalize hF : combA (fun w => RD (natW w)) Y [] = l1 at e4 a4 linY
  -- the sum
  obtain ⟨l, ixl, hl, hw⟩ : ∃ l, ixD (.lst [dS l0, dS l1]) (.int g2) = some (dS l) ∧ AccL 2520 (2 ^ 170) c 5 1 l ∧ (g2 = 1 → l = l1) := by
    have : g2 = 0 ∨ g2 = 1 := by omega
    rcases this with rfl | rfl
    · exact ⟨l0, rfl, (dic_acc h0).top (by decide) (Nat.le_refl _), fun z => by cases z⟩
    · exact ⟨l1, rfl, (a4.up (k2 := 96) (by omega)).top (by decide) (Nat.le_refl _), fun _ => rfl⟩
  have e5 := law_told_ok hl.good
  have pm := told_perm hl.good.nd
  have aT : AccL 2520 (2 ^ 170) c 5 1 (toldT l) := ⟨hl.good.told.good, fun w => by rw [coef_told hl.good]; exact hl.bd w, fun p hp => hl.wd p (pm.mem_iff.mp hp)⟩
  obtain ⟨X, e6, tl⟩ := told_by_ok c1 c4 (b := 170) (by decide) aT hl.good.told
  have hXl : X.length ≤ 16807 := wd_many (n := 4) (by decide) tl.sm.good.nd fun p hp => tl.wd p hp
  have e7 := form_ok tl.sm tl.wd (by omega)
  obtain ⟨e8, a8⟩ := law_all_ok (b := 400000) (c := 4) (by decide) (by decide) (X := X) (fun p hp => ⟨(tl.wd p hp).1, (tl.wd p hp).2, tl.bd p hp⟩) (by omega)
  have linX := fun f => lin_all tl.wd f
  generalize hG : combA (fun w => RD (natW w)) X [] = l2 at e8 a8 linX
  have nx : neX (dS l2) (dS l) = some (.bl false) := by
    show (dctEq (dE eRat.en l2) (dE eRat.en l)).map (fun r => D.bl (!r)) = _
    rw [dct_one a8.good hl.good, decide_eq_true (told_eq a8.good hl.good fun f => by rw [linX f, ← tl.e f, lin_told hl.good])]
    rfl
  have ns : neD (eSum.en (toldT l)) (eSum.en (toldT l)) = some (.bl false) := by
    rw [neD_enc eSum (by decide), decide_eq_true rfl]; rfl
  have nr := ne_rows X
  have so := sortK_gen (m := m__law_whole_rank) eLR (fun p => p.1) Y fun p hp => whole_rank_ok (wY p hp).1 (wY p hp).2
  obtain ⟨smY, pmY⟩ := srtR_sm hY.nd nzY
  have itY : itemsA (.lst (Y.map eLR)) = some (Y.map eLR) := rfl
  have hXY : g2 = 1 → X = srtR Y := fun z => tl_one tl.sm smY tl.wd (fun p hp => wY p (pmY.mem_iff.mp hp)) fun f => by
    rw [← tl.e f, lin_told hl.good, hw z, linY f]
    exact (lin_perm pmY).symm
  have so : sortK m__law_whole_rank (Y.map eLR) = some ((srtR Y).map eLR) := so
  have lx : listD [.lst (X.map eLR)] = some (.lst (X.map eLR)) := rfl
  have cl : uClear (X.map eLR) [] = some (.non, []) := rfl
  refine ⟨some p4, some (.int ((c : Nat) : Int)), some (.lst (Y.map eLR)), some (.int g2), some (dS l), some (eSum.en (toldT l)), some (.lst []), some (.lst (X.map eLR)), ?_⟩
  clear hF hG a4 linY hl hw pm aT tl a8 linX smY pmY wY hY nzY h0 hp hp1 hp2 hp3 hp4 szY hXl
  by_cases hg : g2 = 1
  · have hXY := hXY hg
    rw [← hXY] at so
    subst hg
    clear hXY
    have q1 : eqD (.int 1) (.int 1) = some (.bl true) := rfl
    generalize (srtR Y).map eLR = SY at *
    generalize X.map eLR = XM at *
    generalize Y.map eLR = YM at *
    generalize eSum.en (toldT l) = TL1 at *
    generalize dS l2 = S2 at *
    generalize dS l0 = S0 at *
    generalize dS l1 = S1 at *
    generalize dS l = SL at *
    simp (maxSteps := 2000000) (disch := first | assumption | decide | omega) only [bCell, runF, m0, sSeq, sSet, sIf, sRet, sRetN, sExpr, sSkip_ok, sSetA, sSetIx, sFor, sPar, sBind, sAug, eVar, eCon_ok, eOp2, eOp1, eCall, eCallM, eCallT, eTup, eLst, eArg, eIf, tVal, tNotF, tAndF, tOrF, eB, eAndF, eOrF, eNotF, eIxA, eIxO, eCatO, ixA_lst, ixA_tup, ixA_scr, eDNew, eDGet, eDGetO, eDPop, eSortK, eMM, aHoleQ, aHole, aNil_ok, aCons, oNone_ok, oSome, eSlice, eSliceL, iSeqA, iSeq, iRange, iArg, ePeek, tPeek, eOwnM, tYes_ok, bind_ok, bind_exc, bind_stuck, of_some, flatD, SW.gName, List.getD_cons_zero, List.getD_cons_succ, List.set_cons_zero, List.set_cons_succ, List.map_cons, List.map_nil, List.length_cons, List.length_nil, List.cons_append, List.nil_append, List.replicate, Nat.reduceAdd, Nat.reduceSub, addD_int, subD_int, negD_int, repD_int, modD_int, fdivD_int, ltA_int, leA_int, gtA_int, geA_int, eqD_int, neD_int, pow_10_18, pow_10_60, e1, t1, ec, e2, t2, e3, e4, ixl, e5, e6, e7, e8, nx, ns, q1, itY, so, nr, lx, cl, Bool.not_true, Bool.false_eq_true, if_false, if_true, Option.getD_some, Option.bind_some]
  · have g0 : g2 = 0 := by omega
    subst g0
    clear hXY hg
    have q1 : eqD (.int 0) (.int 1) = some (.bl false) := rfl
    generalize X.map eLR = XM at *
    generalize Y.map eLR = YM at *
    generalize eSum.en (toldT l) = TL1 at *
    generalize dS l2 = S2 at *
    generalize dS l0 = S0 at *
    generalize dS l1 = S1 at *
    generalize dS l = SL at *
    simp (maxSteps := 2000000) (disch := first | assumption | decide | omega) only [bCell, runF, m0, sSeq, sSet, sIf, sRet, sRetN, sExpr, sSkip_ok, sSetA, sSetIx, sFor, sPar, sBind, sAug, eVar, eCon_ok, eOp2, eOp1, eCall, eCallM, eCallT, eTup, eLst, eArg, eIf, tVal, tNotF, tAndF, tOrF, eB, eAndF, eOrF, eNotF, eIxA, eIxO, eCatO, ixA_lst, ixA_tup, ixA_scr, eDNew, eDGet, eDGetO, eDPop, eSortK, eMM, aHoleQ, aHole, aNil_ok, aCons, oNone_ok, oSome, eSlice, eSliceL, iSeqA, iSeq, iRange, iArg, ePeek, tPeek, eOwnM, tYes_ok, bind_ok, bind_exc, bind_stuck, of_some, flatD, SW.gName, List.getD_cons_zero, List.getD_cons_succ, List.set_cons_zero, List.set_cons_succ, List.map_cons, List.map_nil, List.length_cons, List.length_nil, List.cons_append, List.nil_append, List.replicate, Nat.reduceAdd, Nat.reduceSub, addD_int, subD_int, negD_int, repD_int, modD_int, fdivD_int, ltA_int, leA_int, gtA_int, geA_int, eqD_int, neD_int, pow_10_18, pow_10_60, e1, t1, ec, e2, t2, e3, e4, ixl, e5, e6, e7, e8, nx, ns, q1, nr, lx, cl, Bool.not_true, Bool.false_eq_true, if_false, if_true, Option.getD_some, Option.bind_some]
theorem law_true : ∀ ns : List Int, ns.length ≤ 63 → ∃ o, m_law [.scr ns] = .ok (.bl true, o) := by
  intro ns hns
  obtain ⟨i, hi⟩ := law_at_ok ns 1 (by decide)
  have hc := cells_cut ns (k := 3) (by decide)
  have ha := addD_lst ((ns.take (3 : Int).toNat).map D.int) [.int i] (by rw [List.length_map, List.length_take]; simp; omega)
  have em : (ns.take (3 : Int).toNat).map D.int ++ [.int i] = (ns.take (3 : Int).toNat ++ [i]).map D.int := by rw [List.map_append]; rfl
  rw [em] at ha
  obtain ⟨ρ', e, y1, y2, y3, y4, y5, y6, y7, y8, y9, rfl⟩ := forL_fold (b := gName 1) (g := bCell) (f := D.int) (σ := Unit) (step := fun s _ => s) (St := fun _ ρ => ∃ y1 y2 y3 y4 y5 y6 y7 y8 y9, ρ = [some (.scr ns), y1, y2, y3, y4, y5, y6, y7, y8, y9]) (ns.take (3 : Int).toNat ++ [i]) () [some (.scr ns), none, none, none, none, none, none, none, none, none] ⟨_, _, _, _, _, _, _, _, _, rfl⟩ (by
    rintro j - _ ρ ⟨y1, y2, y3, y4, y5, y6, y7, y8, y9, rfl⟩
    obtain ⟨z2, z3, z4, z5, z6, z7, z8, z9, e⟩ := cell_ok j (some (.scr ns)) y2 y3 y4 y5 y6 y7 y8 y9
    exact ⟨_, _, rfl, e, _, _, _, _, _, _, _, _, _, rfl⟩)
  have itm : itemsA (.lst ((ns.take (3 : Int).toNat ++ [i]).map D.int)) = some ((ns.take (3 : Int).toNat ++ [i]).map D.int) := rfl
  unfold bCell at e
  generalize (ns.take (3 : Int).toNat ++ [i]).map D.int = MS at *
  generalize (ns.take (3 : Int).toNat).map D.int = MS0 at *
  refine ⟨.non, ?_⟩
  simp (disch := first | assumption | decide | omega) only [m_law, b_law, runF, m0, sSeq, sSet, sIf, sRet, sRetN, sExpr, sSkip_ok, sSetA, sSetIx, sFor, sPar, sBind, sAug, eVar, eCon_ok, eOp2, eOp1, eCall, eCallM, eCallT, eTup, eLst, eArg, eIf, tVal, tNotF, tAndF, tOrF, eB, eAndF, eOrF, eNotF, eIxA, eIxO, eCatO, ixA_lst, ixA_tup, ixA_scr, eDNew, eDGet, eDGetO, eDPop, eSortK, eMM, aHoleQ, aHole, aNil_ok, aCons, oNone_ok, oSome, eSlice, eSliceL, iSeqA, iSeq, iRange, iArg, ePeek, tPeek, eOwnM, tYes_ok, bind_ok, bind_exc, bind_stuck, of_some, flatD, SW.gName, List.getD_cons_zero, List.getD_cons_succ, List.set_cons_zero, List.set_cons_succ, List.map_cons, List.map_nil, List.length_cons, List.length_nil, List.cons_append, List.nil_append, List.replicate, Nat.reduceAdd, Nat.reduceSub, addD_int, subD_int, negD_int, repD_int, modD_int, fdivD_int, ltA_int, leA_int, gtA_int, geA_int, eqD_int, neD_int, pow_10_18, pow_10_60, hi, hc, ha, itm, e]

end Lw

set_option maxRecDepth 100000
set_option maxHeartbeats 0
namespace Lw
open PySem PySem.Spec PyProof.Rows L2 SW

theorem sc__law_mixed : FnScope nn__law_mixed ["_law_cell", "_law_k"] (defScope s__law_mixed) := ⟨rfl, rfl, rfl, by decide +kernel, rfl, by decide +kernel, by decide +kernel⟩

theorem sc__law_purse : FnScope nn__law_purse ["_law_cell", "_law_k"] (defScope s__law_purse) := ⟨rfl, rfl, rfl, by decide +kernel, rfl, by decide +kernel, by decide +kernel⟩

theorem sc__law_take : FnScope nn__law_take ["_law_purse_here", "_law_many"] (defScope s__law_take) := ⟨rfl, rfl, rfl, by decide +kernel, rfl, by decide +kernel, by decide +kernel⟩

theorem sc__law_low : FnScope nn__law_low ["_law_top", "_law_bottom"] (defScope s__law_low) := ⟨rfl, rfl, rfl, by decide +kernel, rfl, by decide +kernel, by decide +kernel⟩

theorem sc__law_few : FnScope nn__law_few ["_law_purse_here"] (defScope s__law_few) := ⟨rfl, rfl, rfl, by decide +kernel, rfl, by decide +kernel, by decide +kernel⟩

theorem sc_is_whole : FnScope nn_is_whole ["one"] (defScope s_is_whole) := ⟨rfl, rfl, rfl, by decide +kernel, rfl, by decide +kernel, by decide +kernel⟩

theorem sc_is_word : FnScope nn_is_word ["word", "count"] (defScope s_is_word) := ⟨rfl, rfl, rfl, by decide +kernel, rfl, by decide +kernel, by decide +kernel⟩

theorem sc_check_word : FnScope nn_check_word ["word"] (defScope s_check_word) := ⟨rfl, rfl, rfl, by decide +kernel, rfl, by decide +kernel, by decide +kernel⟩

theorem sc_is_least : FnScope nn_is_least ["word"] (defScope s_is_least) := ⟨rfl, rfl, rfl, by decide +kernel, rfl, by decide +kernel, by decide +kernel⟩

theorem sc_falling : FnScope nn_falling ["word"] (defScope s_falling) := ⟨rfl, rfl, rfl, by decide +kernel, rfl, by decide +kernel, by decide +kernel⟩

theorem sc_fallen : FnScope nn_fallen ["word"] (defScope s_fallen) := ⟨rfl, rfl, rfl, by decide +kernel, rfl, by decide +kernel, by decide +kernel⟩

theorem sc__law_word : FnScope nn__law_word ["_law_purse_here", "_law_count", "_law_most"] (defScope s__law_word) := ⟨rfl, rfl, rfl, by decide +kernel, rfl, by decide +kernel, by decide +kernel⟩

theorem sc__law_rows_drawn : FnScope nn__law_rows_drawn ["_law_purse_here", "_law_count"] (defScope s__law_rows_drawn) := ⟨rfl, rfl, rfl, by decide +kernel, rfl, by decide +kernel, by decide +kernel⟩

theorem sc__law_rank : FnScope nn__law_rank ["_law_word_here"] (defScope s__law_rank) := ⟨rfl, rfl, rfl, by decide +kernel, rfl, by decide +kernel, by decide +kernel⟩

theorem sc__law_told : FnScope nn__law_told ["_law_found"] (defScope s__law_told) := ⟨rfl, rfl, rfl, by decide +kernel, rfl, by decide +kernel, by decide +kernel⟩

theorem sc_check_count : FnScope nn_check_count ["count"] (defScope s_check_count) := ⟨rfl, rfl, rfl, by decide +kernel, rfl, by decide +kernel, by decide +kernel⟩

theorem sc_divisor : FnScope nn_divisor ["one", "other"] (defScope s_divisor) := ⟨rfl, rfl, rfl, by decide +kernel, rfl, by decide +kernel, by decide +kernel⟩

theorem sc_is_number : FnScope nn_is_number ["one"] (defScope s_is_number) := ⟨rfl, rfl, rfl, by decide +kernel, rfl, by decide +kernel, by decide +kernel⟩

theorem sc_is_term : FnScope nn_is_term ["told", "count"] (defScope s_is_term) := ⟨rfl, rfl, rfl, by decide +kernel, rfl, by decide +kernel, by decide +kernel⟩

theorem sc_rank : FnScope nn_rank ["word"] (defScope s_rank) := ⟨rfl, rfl, rfl, by decide +kernel, rfl, by decide +kernel, by decide +kernel⟩

theorem sc_check_sum : FnScope nn_check_sum ["count", "total"] (defScope s_check_sum) := ⟨rfl, rfl, rfl, by decide +kernel, rfl, by decide +kernel, by decide +kernel⟩

theorem sc_gathered : FnScope nn_gathered ["total"] (defScope s_gathered) := ⟨rfl, rfl, rfl, by decide +kernel, rfl, by decide +kernel, by decide +kernel⟩

theorem sc_lowest : FnScope nn_lowest ["top", "bottom"] (defScope s_lowest) := ⟨rfl, rfl, rfl, by decide +kernel, rfl, by decide +kernel, by decide +kernel⟩

theorem sc_plus : FnScope nn_plus ["one", "other"] (defScope s_plus) := ⟨rfl, rfl, rfl, by decide +kernel, rfl, by decide +kernel, by decide +kernel⟩

theorem sc_put_to : FnScope nn_put_to ["numbers", "word", "number"] (defScope s_put_to) := ⟨rfl, rfl, rfl, by decide +kernel, rfl, by decide +kernel, by decide +kernel⟩

theorem sc_times : FnScope nn_times ["one", "other"] (defScope s_times) := ⟨rfl, rfl, rfl, by decide +kernel, rfl, by decide +kernel, by decide +kernel⟩

theorem sc_joined_to : FnScope nn_joined_to ["numbers", "one", "other"] (defScope s_joined_to) := ⟨rfl, rfl, rfl, by decide +kernel, rfl, by decide +kernel, by decide +kernel⟩

theorem sc_told_sum : FnScope nn_told_sum ["numbers"] (defScope s_told_sum) := ⟨rfl, rfl, rfl, by decide +kernel, rfl, by decide +kernel, by decide +kernel⟩

theorem sc_contrary : FnScope nn_contrary ["one"] (defScope s_contrary) := ⟨rfl, rfl, rfl, by decide +kernel, rfl, by decide +kernel, by decide +kernel⟩

theorem sc_said_by : FnScope nn_said_by ["tree"] (defScope s_said_by) := ⟨rfl, rfl, rfl, by decide +kernel, rfl, by decide +kernel, by decide +kernel⟩

theorem sc_tree_by : FnScope nn_tree_by ["word"] (defScope s_tree_by) := ⟨rfl, rfl, rfl, by decide +kernel, rfl, by decide +kernel, by decide +kernel⟩

theorem sc_joined_trees : FnScope nn_joined_trees ["words"] (defScope s_joined_trees) := ⟨rfl, rfl, rfl, by decide +kernel, rfl, by decide +kernel, by decide +kernel⟩

theorem sc_told_by_least : FnScope nn_told_by_least ["count", "total"] (defScope s_told_by_least) := ⟨rfl, rfl, rfl, by decide +kernel, rfl, by decide +kernel, by decide +kernel⟩

theorem sc__law_at : FnScope nn__law_at ["_law_script", "_law_k"] (defScope s__law_at) := ⟨rfl, rfl, rfl, by decide +kernel, rfl, by decide +kernel, by decide +kernel⟩

theorem sc__law_number : FnScope nn__law_number ["_law_purse_here"] (defScope s__law_number) := ⟨rfl, rfl, rfl, by decide +kernel, rfl, by decide +kernel, by decide +kernel⟩

theorem sc__law_sum : FnScope nn__law_sum ["_law_purse_here", "_law_count", "_law_many", "_law_most"] (defScope s__law_sum) := ⟨rfl, rfl, rfl, by decide +kernel, rfl, by decide +kernel, by decide +kernel⟩

theorem sc__law_plus : FnScope nn__law_plus ["_law_one", "_law_other"] (defScope s__law_plus) := ⟨rfl, rfl, rfl, by decide +kernel, rfl, by decide +kernel, by decide +kernel⟩

theorem sc__law_put : FnScope nn__law_put ["_law_found", "_law_word_here", "_law_number_here"] (defScope s__law_put) := ⟨rfl, rfl, rfl, by decide +kernel, rfl, by decide +kernel, by decide +kernel⟩

theorem sc__law_by : FnScope nn__law_by ["_law_one", "_law_other"] (defScope s__law_by) := ⟨rfl, rfl, rfl, by decide +kernel, rfl, by decide +kernel, by decide +kernel⟩

theorem sc__law_joined : FnScope nn__law_joined ["_law_one", "_law_other"] (defScope s__law_joined) := ⟨rfl, rfl, rfl, by decide +kernel, rfl, by decide +kernel, by decide +kernel⟩

theorem sc__law_not : FnScope nn__law_not ["_law_one"] (defScope s__law_not) := ⟨rfl, rfl, rfl, by decide +kernel, rfl, by decide +kernel, by decide +kernel⟩

theorem sc__law_less : FnScope nn__law_less ["_law_one", "_law_other"] (defScope s__law_less) := ⟨rfl, rfl, rfl, by decide +kernel, rfl, by decide +kernel, by decide +kernel⟩

theorem sc__law_said : FnScope nn__law_said ["_law_tree_here"] (defScope s__law_said) := ⟨rfl, rfl, rfl, by decide +kernel, rfl, by decide +kernel, by decide +kernel⟩

theorem sc_least_tree : FnScope nn_least_tree ["word"] (defScope s_least_tree) := ⟨rfl, rfl, rfl, by decide +kernel, rfl, by decide +kernel, by decide +kernel⟩

theorem sc__law_row_sum : FnScope nn__law_row_sum ["_law_words"] (defScope s__law_row_sum) := ⟨rfl, rfl, rfl, by decide +kernel, rfl, by decide +kernel, by decide +kernel⟩

theorem sc__law_all : FnScope nn__law_all ["_law_rows"] (defScope s__law_all) := ⟨rfl, rfl, rfl, by decide +kernel, rfl, by decide +kernel, by decide +kernel⟩

theorem sc__law_whole_word : FnScope nn__law_whole_word ["_law_words"] (defScope s__law_whole_word) := ⟨rfl, rfl, rfl, by decide +kernel, rfl, by decide +kernel, by decide +kernel⟩

theorem sc__law_is_least : FnScope nn__law_is_least ["_law_word_here"] (defScope s__law_is_least) := ⟨rfl, rfl, rfl, by decide +kernel, rfl, by decide +kernel, by decide +kernel⟩

theorem sc__law_is_row : FnScope nn__law_is_row ["_law_words"] (defScope s__law_is_row) := ⟨rfl, rfl, rfl, by decide +kernel, rfl, by decide +kernel, by decide +kernel⟩

theorem sc__law_form_right : FnScope nn__law_form_right ["_law_told_here"] (defScope s__law_form_right) := ⟨rfl, rfl, rfl, by decide +kernel, rfl, by decide +kernel, by decide +kernel⟩

theorem sc__law_whole_rank : FnScope nn__law_whole_rank ["_law_row"] (defScope s__law_whole_rank) := ⟨rfl, rfl, rfl, by decide +kernel, rfl, by decide +kernel, by decide +kernel⟩

theorem sc_law : FnScope nn_law ["_law_script"] (defScope s_law) := ⟨rfl, rfl, rfl, by decide +kernel, rfl, by decide +kernel, by decide +kernel⟩

structure Txt (P : Program) (K : PySem.W.Frag) (mg : Str → Option Value) where
  seer : seerB K = true
  tree : P.given.tree = none

  a__law_mixed : Addr
  d__law_mixed : FuncData
  F__law_mixed : Fun K "_law_mixed" "_law_mixed" s__law_mixed a__law_mixed d__law_mixed
  g__law_mixed : mg "_law_mixed" = some (.ref a__law_mixed)
  k__law_mixed : PySem.W.keepIn K (.ref a__law_mixed) = true
  b__law_mixed : L2.Binds K d__law_mixed ["_law_cell", "_law_k"] []

  a__law_purse : Addr
  d__law_purse : FuncData
  F__law_purse : Fun K "_law_purse" "_law_purse" s__law_purse a__law_purse d__law_purse
  g__law_purse : mg "_law_purse" = some (.ref a__law_purse)
  k__law_purse : PySem.W.keepIn K (.ref a__law_purse) = true
  b__law_purse : L2.Binds K d__law_purse ["_law_cell", "_law_k"] []

  a__law_take : Addr
  d__law_take : FuncData
  F__law_take : Fun K "_law_take" "_law_take" s__law_take a__law_take d__law_take
  g__law_take : mg "_law_take" = some (.ref a__law_take)
  k__law_take : PySem.W.keepIn K (.ref a__law_take) = true
  b__law_take : L2.Binds K d__law_take ["_law_purse_here", "_law_many"] []

  a__law_low : Addr
  d__law_low : FuncData
  F__law_low : Fun K "_law_low" "_law_low" s__law_low a__law_low d__law_low
  g__law_low : mg "_law_low" = some (.ref a__law_low)
  k__law_low : PySem.W.keepIn K (.ref a__law_low) = true
  b__law_low : L2.Binds K d__law_low ["_law_top", "_law_bottom"] []

  a__law_few : Addr
  d__law_few : FuncData
  F__law_few : Fun K "_law_few" "_law_few" s__law_few a__law_few d__law_few
  g__law_few : mg "_law_few" = some (.ref a__law_few)
  k__law_few : PySem.W.keepIn K (.ref a__law_few) = true
  b__law_few : L2.Binds K d__law_few ["_law_purse_here"] []

  a_is_whole : Addr
  d_is_whole : FuncData
  F_is_whole : Fun K "is_whole" "is_whole" s_is_whole a_is_whole d_is_whole
  g_is_whole : mg "is_whole" = some (.ref a_is_whole)
  k_is_whole : PySem.W.keepIn K (.ref a_is_whole) = true
  b_is_whole : L2.Binds K d_is_whole ["one"] []

  a_is_word : Addr
  d_is_word : FuncData
  F_is_word : Fun K "is_word" "is_word" s_is_word a_is_word d_is_word
  g_is_word : mg "is_word" = some (.ref a_is_word)
  k_is_word : PySem.W.keepIn K (.ref a_is_word) = true
  b_is_word : L2.Binds K d_is_word ["word", "count"] []

  a_check_word : Addr
  d_check_word : FuncData
  F_check_word : Fun K "check_word" "check_word" s_check_word a_check_word d_check_word
  g_check_word : mg "check_word" = some (.ref a_check_word)
  k_check_word : PySem.W.keepIn K (.ref a_check_word) = true
  b_check_word : L2.Binds K d_check_word ["word"] []

  a_is_least : Addr
  d_is_least : FuncData
  F_is_least : Fun K "is_least" "is_least" s_is_least a_is_least d_is_least
  g_is_least : mg "is_least" = some (.ref a_is_least)
  k_is_least : PySem.W.keepIn K (.ref a_is_least) = true
  b_is_least : L2.Binds K d_is_least ["word"] []

  a_falling : Addr
  d_falling : FuncData
  F_falling : Fun K "falling" "falling" s_falling a_falling d_falling
  g_falling : mg "falling" = some (.ref a_falling)
  k_falling : PySem.W.keepIn K (.ref a_falling) = true
  b_falling : L2.Binds K d_falling ["word"] []

  a_fallen : Addr
  d_fallen : FuncData
  F_fallen : Fun K "fallen" "fallen" s_fallen a_fallen d_fallen
  g_fallen : mg "fallen" = some (.ref a_fallen)
  k_fallen : PySem.W.keepIn K (.ref a_fallen) = true
  b_fallen : L2.Binds K d_fallen ["word"] []

  a__law_word : Addr
  d__law_word : FuncData
  F__law_word : Fun K "_law_word" "_law_word" s__law_word a__law_word d__law_word
  g__law_word : mg "_law_word" = some (.ref a__law_word)
  k__law_word : PySem.W.keepIn K (.ref a__law_word) = true
  b__law_word : L2.Binds K d__law_word ["_law_purse_here", "_law_count", "_law_most"] []

  a__law_rows_drawn : Addr
  d__law_rows_drawn : FuncData
  F__law_rows_drawn : Fun K "_law_rows_drawn" "_law_rows_drawn" s__law_rows_drawn a__law_rows_drawn d__law_rows_drawn
  g__law_rows_drawn : mg "_law_rows_drawn" = some (.ref a__law_rows_drawn)
  k__law_rows_drawn : PySem.W.keepIn K (.ref a__law_rows_drawn) = true
  b__law_rows_drawn : L2.Binds K d__law_rows_drawn ["_law_purse_here", "_law_count"] []

  a__law_rank : Addr
  d__law_rank : FuncData
  F__law_rank : Fun K "_law_rank" "_law_rank" s__law_rank a__law_rank d__law_rank
  g__law_rank : mg "_law_rank" = some (.ref a__law_rank)
  k__law_rank : PySem.W.keepIn K (.ref a__law_rank) = true
  b__law_rank : L2.Binds K d__law_rank ["_law_word_here"] []

  a__law_told : Addr
  d__law_told : FuncData
  F__law_told : Fun K "_law_told" "_law_told" s__law_told a__law_told d__law_told
  g__law_told : mg "_law_told" = some (.ref a__law_told)
  k__law_told : PySem.W.keepIn K (.ref a__law_told) = true
  b__law_told : L2.Binds K d__law_told ["_law_found"] []

  a_check_count : Addr
  d_check_count : FuncData
  F_check_count : Fun K "check_count" "check_count" s_check_count a_check_count d_check_count
  g_check_count : mg "check_count" = some (.ref a_check_count)
  k_check_count : PySem.W.keepIn K (.ref a_check_count) = true
  b_check_count : L2.Binds K d_check_count ["count"] []

  a_divisor : Addr
  d_divisor : FuncData
  F_divisor : Fun K "divisor" "divisor" s_divisor a_divisor d_divisor
  g_divisor : mg "divisor" = some (.ref a_divisor)
  k_divisor : PySem.W.keepIn K (.ref a_divisor) = true
  b_divisor : L2.Binds K d_divisor ["one", "other"] []

  a_is_number : Addr
  d_is_number : FuncData
  F_is_number : Fun K "is_number" "is_number" s_is_number a_is_number d_is_number
  g_is_number : mg "is_number" = some (.ref a_is_number)
  k_is_number : PySem.W.keepIn K (.ref a_is_number) = true
  b_is_number : L2.Binds K d_is_number ["one"] []

  a_is_term : Addr
  d_is_term : FuncData
  F_is_term : Fun K "is_term" "is_term" s_is_term a_is_term d_is_term
  g_is_term : mg "is_term" = some (.ref a_is_term)
  k_is_term : PySem.W.keepIn K (.ref a_is_term) = true
  b_is_term : L2.Binds K d_is_term ["told", "count"] []

  a_rank : Addr
  d_rank : FuncData
  F_rank : Fun K "rank" "rank" s_rank a_rank d_rank
  g_rank : mg "rank" = some (.ref a_rank)
  k_rank : PySem.W.keepIn K (.ref a_rank) = true
  b_rank : L2.Binds K d_rank ["word"] []

  a_check_sum : Addr
  d_check_sum : FuncData
  F_check_sum : Fun K "check_sum" "check_sum" s_check_sum a_check_sum d_check_sum
  g_check_sum : mg "check_sum" = some (.ref a_check_sum)
  k_check_sum : PySem.W.keepIn K (.ref a_check_sum) = true
  b_check_sum : L2.Binds K d_check_sum ["count", "total"] []

  a_gathered : Addr
  d_gathered : FuncData
  F_gathered : Fun K "gathered" "gathered" s_gathered a_gathered d_gathered
  g_gathered : mg "gathered" = some (.ref a_gathered)
  k_gathered : PySem.W.keepIn K (.ref a_gathered) = true
  b_gathered : L2.Binds K d_gathered ["total"] []

  a_lowest : Addr
  d_lowest : FuncData
  F_lowest : Fun K "lowest" "lowest" s_lowest a_lowest d_lowest
  g_lowest : mg "lowest" = some (.ref a_lowest)
  k_lowest : PySem.W.keepIn K (.ref a_lowest) = true
  b_lowest : L2.Binds K d_lowest ["top", "bottom"] []

  a_plus : Addr
  d_plus : FuncData
  F_plus : Fun K "plus" "plus" s_plus a_plus d_plus
  g_plus : mg "plus" = some (.ref a_plus)
  k_plus : PySem.W.keepIn K (.ref a_plus) = true
  b_plus : L2.Binds K d_plus ["one", "other"] []

  a_put_to : Addr
  d_put_to : FuncData
  F_put_to : Fun K "put_to" "put_to" s_put_to a_put_to d_put_to
  g_put_to : mg "put_to" = some (.ref a_put_to)
  k_put_to : PySem.W.keepIn K (.ref a_put_to) = true
  b_put_to : L2.Binds K d_put_to ["numbers", "word", "number"] []

  a_times : Addr
  d_times : FuncData
  F_times : Fun K "times" "times" s_times a_times d_times
  g_times : mg "times" = some (.ref a_times)
  k_times : PySem.W.keepIn K (.ref a_times) = true
  b_times : L2.Binds K d_times ["one", "other"] []

  a_joined_to : Addr
  d_joined_to : FuncData
  F_joined_to : Fun K "joined_to" "joined_to" s_joined_to a_joined_to d_joined_to
  g_joined_to : mg "joined_to" = some (.ref a_joined_to)
  k_joined_to : PySem.W.keepIn K (.ref a_joined_to) = true
  b_joined_to : L2.Binds K d_joined_to ["numbers", "one", "other"] []

  a_told_sum : Addr
  d_told_sum : FuncData
  F_told_sum : Fun K "told_sum" "told_sum" s_told_sum a_told_sum d_told_sum
  g_told_sum : mg "told_sum" = some (.ref a_told_sum)
  k_told_sum : PySem.W.keepIn K (.ref a_told_sum) = true
  b_told_sum : L2.Binds K d_told_sum ["numbers"] []

  a_contrary : Addr
  d_contrary : FuncData
  F_contrary : Fun K "contrary" "contrary" s_contrary a_contrary d_contrary
  g_contrary : mg "contrary" = some (.ref a_contrary)
  k_contrary : PySem.W.keepIn K (.ref a_contrary) = true
  b_contrary : L2.Binds K d_contrary ["one"] []

  a_said_by : Addr
  d_said_by : FuncData
  F_said_by : Fun K "said_by" "said_by" s_said_by a_said_by d_said_by
  g_said_by : mg "said_by" = some (.ref a_said_by)
  k_said_by : PySem.W.keepIn K (.ref a_said_by) = true
  b_said_by : L2.Binds K d_said_by ["tree"] []

  a_tree_by : Addr
  d_tree_by : FuncData
  F_tree_by : Fun K "tree_by" "tree_by" s_tree_by a_tree_by d_tree_by
  g_tree_by : mg "tree_by" = some (.ref a_tree_by)
  k_tree_by : PySem.W.keepIn K (.ref a_tree_by) = true
  b_tree_by : L2.Binds K d_tree_by ["word"] []

  a_joined_trees : Addr
  d_joined_trees : FuncData
  F_joined_trees : Fun K "joined_trees" "joined_trees" s_joined_trees a_joined_trees d_joined_trees
  g_joined_trees : mg "joined_trees" = some (.ref a_joined_trees)
  k_joined_trees : PySem.W.keepIn K (.ref a_joined_trees) = true
  b_joined_trees : L2.Binds K d_joined_trees ["words"] []

  a_told_by_least : Addr
  d_told_by_least : FuncData
  F_told_by_least : Fun K "told_by_least" "told_by_least" s_told_by_least a_told_by_least d_told_by_least
  g_told_by_least : mg "told_by_least" = some (.ref a_told_by_least)
  k_told_by_least : PySem.W.keepIn K (.ref a_told_by_least) = true
  b_told_by_least : L2.Binds K d_told_by_least ["count", "total"] []

  a__law_at : Addr
  d__law_at : FuncData
  F__law_at : Fun K "_law_at" "_law_at" s__law_at a__law_at d__law_at
  g__law_at : mg "_law_at" = some (.ref a__law_at)
  k__law_at : PySem.W.keepIn K (.ref a__law_at) = true
  b__law_at : L2.Binds K d__law_at ["_law_script", "_law_k"] []

  a__law_number : Addr
  d__law_number : FuncData
  F__law_number : Fun K "_law_number" "_law_number" s__law_number a__law_number d__law_number
  g__law_number : mg "_law_number" = some (.ref a__law_number)
  k__law_number : PySem.W.keepIn K (.ref a__law_number) = true
  b__law_number : L2.Binds K d__law_number ["_law_purse_here"] []

  a__law_sum : Addr
  d__law_sum : FuncData
  F__law_sum : Fun K "_law_sum" "_law_sum" s__law_sum a__law_sum d__law_sum
  g__law_sum : mg "_law_sum" = some (.ref a__law_sum)
  k__law_sum : PySem.W.keepIn K (.ref a__law_sum) = true
  b__law_sum : L2.Binds K d__law_sum ["_law_purse_here", "_law_count", "_law_many", "_law_most"] []

  a__law_plus : Addr
  d__law_plus : FuncData
  F__law_plus : Fun K "_law_plus" "_law_plus" s__law_plus a__law_plus d__law_plus
  g__law_plus : mg "_law_plus" = some (.ref a__law_plus)
  k__law_plus : PySem.W.keepIn K (.ref a__law_plus) = true
  b__law_plus : L2.Binds K d__law_plus ["_law_one", "_law_other"] []

  a__law_put : Addr
  d__law_put : FuncData
  F__law_put : Fun K "_law_put" "_law_put" s__law_put a__law_put d__law_put
  g__law_put : mg "_law_put" = some (.ref a__law_put)
  k__law_put : PySem.W.keepIn K (.ref a__law_put) = true
  b__law_put : L2.Binds K d__law_put ["_law_found", "_law_word_here", "_law_number_here"] []

  a__law_by : Addr
  d__law_by : FuncData
  F__law_by : Fun K "_law_by" "_law_by" s__law_by a__law_by d__law_by
  g__law_by : mg "_law_by" = some (.ref a__law_by)
  k__law_by : PySem.W.keepIn K (.ref a__law_by) = true
  b__law_by : L2.Binds K d__law_by ["_law_one", "_law_other"] []

  a__law_joined : Addr
  d__law_joined : FuncData
  F__law_joined : Fun K "_law_joined" "_law_joined" s__law_joined a__law_joined d__law_joined
  g__law_joined : mg "_law_joined" = some (.ref a__law_joined)
  k__law_joined : PySem.W.keepIn K (.ref a__law_joined) = true
  b__law_joined : L2.Binds K d__law_joined ["_law_one", "_law_other"] []

  a__law_not : Addr
  d__law_not : FuncData
  F__law_not : Fun K "_law_not" "_law_not" s__law_not a__law_not d__law_not
  g__law_not : mg "_law_not" = some (.ref a__law_not)
  k__law_not : PySem.W.keepIn K (.ref a__law_not) = true
  b__law_not : L2.Binds K d__law_not ["_law_one"] []

  a__law_less : Addr
  d__law_less : FuncData
  F__law_less : Fun K "_law_less" "_law_less" s__law_less a__law_less d__law_less
  g__law_less : mg "_law_less" = some (.ref a__law_less)
  k__law_less : PySem.W.keepIn K (.ref a__law_less) = true
  b__law_less : L2.Binds K d__law_less ["_law_one", "_law_other"] []

  a__law_said : Addr
  d__law_said : FuncData
  F__law_said : Fun K "_law_said" "_law_said" s__law_said a__law_said d__law_said
  g__law_said : mg "_law_said" = some (.ref a__law_said)
  k__law_said : PySem.W.keepIn K (.ref a__law_said) = true
  b__law_said : L2.Binds K d__law_said ["_law_tree_here"] []

  a_least_tree : Addr
  d_least_tree : FuncData
  F_least_tree : Fun K "least_tree" "least_tree" s_least_tree a_least_tree d_least_tree
  g_least_tree : mg "least_tree" = some (.ref a_least_tree)
  k_least_tree : PySem.W.keepIn K (.ref a_least_tree) = true
  b_least_tree : L2.Binds K d_least_tree ["word"] []

  a__law_row_sum : Addr
  d__law_row_sum : FuncData
  F__law_row_sum : Fun K "_law_row_sum" "_law_row_sum" s__law_row_sum a__law_row_sum d__law_row_sum
  g__law_row_sum : mg "_law_row_sum" = some (.ref a__law_row_sum)
  k__law_row_sum : PySem.W.keepIn K (.ref a__law_row_sum) = true
  b__law_row_sum : L2.Binds K d__law_row_sum ["_law_words"] []

  a__law_all : Addr
  d__law_all : FuncData
  F__law_all : Fun K "_law_all" "_law_all" s__law_all a__law_all d__law_all
  g__law_all : mg "_law_all" = some (.ref a__law_all)
  k__law_all : PySem.W.keepIn K (.ref a__law_all) = true
  b__law_all : L2.Binds K d__law_all ["_law_rows"] []

  a__law_whole_word : Addr
  d__law_whole_word : FuncData
  F__law_whole_word : Fun K "_law_whole_word" "_law_whole_word" s__law_whole_word a__law_whole_word d__law_whole_word
  g__law_whole_word : mg "_law_whole_word" = some (.ref a__law_whole_word)
  k__law_whole_word : PySem.W.keepIn K (.ref a__law_whole_word) = true
  b__law_whole_word : L2.Binds K d__law_whole_word ["_law_words"] []

  a__law_is_least : Addr
  d__law_is_least : FuncData
  F__law_is_least : Fun K "_law_is_least" "_law_is_least" s__law_is_least a__law_is_least d__law_is_least
  g__law_is_least : mg "_law_is_least" = some (.ref a__law_is_least)
  k__law_is_least : PySem.W.keepIn K (.ref a__law_is_least) = true
  b__law_is_least : L2.Binds K d__law_is_least ["_law_word_here"] []

  a__law_is_row : Addr
  d__law_is_row : FuncData
  F__law_is_row : Fun K "_law_is_row" "_law_is_row" s__law_is_row a__law_is_row d__law_is_row
  g__law_is_row : mg "_law_is_row" = some (.ref a__law_is_row)
  k__law_is_row : PySem.W.keepIn K (.ref a__law_is_row) = true
  b__law_is_row : L2.Binds K d__law_is_row ["_law_words"] []

  a__law_form_right : Addr
  d__law_form_right : FuncData
  F__law_form_right : Fun K "_law_form_right" "_law_form_right" s__law_form_right a__law_form_right d__law_form_right
  g__law_form_right : mg "_law_form_right" = some (.ref a__law_form_right)
  k__law_form_right : PySem.W.keepIn K (.ref a__law_form_right) = true
  b__law_form_right : L2.Binds K d__law_form_right ["_law_told_here"] []

  a__law_whole_rank : Addr
  d__law_whole_rank : FuncData
  F__law_whole_rank : Fun K "_law_whole_rank" "_law_whole_rank" s__law_whole_rank a__law_whole_rank d__law_whole_rank
  g__law_whole_rank : mg "_law_whole_rank" = some (.ref a__law_whole_rank)
  k__law_whole_rank : PySem.W.keepIn K (.ref a__law_whole_rank) = true
  b__law_whole_rank : L2.Binds K d__law_whole_rank ["_law_row"] []

  a_law : Addr
  d_law : FuncData
  F_law : Fun K "law" "law" s_law a_law d_law
  g_law : mg "law" = some (.ref a_law)
  k_law : PySem.W.keepIn K (.ref a_law) = true
  b_law : L2.Binds K d_law ["_law_script"] []

  z_abs : mg "abs" = none

  z_bool : mg "bool" = none

  z_dict : mg "dict" = none

  z_enumerate : mg "enumerate" = none

  z_int : mg "int" = none

  z_isinstance : mg "isinstance" = none

  z_len : mg "len" = none

  z_list : mg "list" = none

  z_max : mg "max" = none

  z_min : mg "min" = none

  z_range : mg "range" = none

  z_sorted : mg "sorted" = none

  z_tuple : mg "tuple" = none

  c_MOST : Konst K mg "MOST" k_MOST

  c_MOST_LETTERS : Konst K mg "MOST_LETTERS" k_MOST_LETTERS

  c_NOUGHT : Konst K mg "NOUGHT" k_NOUGHT

  c_ONE : Konst K mg "ONE" k_ONE

section
variable {P : Program} {w : World} {K : PySem.W.Frag} {mg : Str → Option Value} {base : Heap}

theorem ok__law_mixed (T : Txt P K mg) : FnOk P w K mg base (L2.CX P w) 34 T.a__law_mixed T.d__law_mixed ["_law_cell", "_law_k"] (spec K mg 2 none false m__law_mixed) := by
  refine @fn_by P w K mg base "_law_mixed" "_law_mixed" s__law_mixed T.a__law_mixed T.d__law_mixed nn__law_mixed ["_law_cell", "_law_k"] 33 2 none false b__law_mixed [false, false, false] [false, false, false] T.F__law_mixed sc__law_mixed rfl (fun _ => rfl) (os_ok rfl) rfl (.inl rfl) (fun cdv A outer s H E hr X eX tk hp => ?_)
  subst eX
  unfold b__law_mixed
  exact (vss_cons (vs_set 2 (ve_bin o_add (ve_bin o_add (ve_bin o_mul (ve_bin o_add (ve_bin o_mod (ve_var 0) (ve_bin o_add (ve_bin o_pow ve_int ve_int) ve_int)) (ve_bin o_mul ve_int (ve_var 1))) ve_int) (ve_bin o_mul ve_int (ve_var 1))) ve_int) sc__law_mixed.nd) (vss_cons (vs_set 2 (ve_bin o_mod (ve_bin o_mul (ve_var 2) (ve_var 2)) (ve_bin o_add (ve_bin o_pow ve_int ve_int) ve_int)) sc__law_mixed.nd) (vss_one (vs_ret (ve_bin o_mod (ve_bin o_mul (ve_bin o_add (ve_var 2) ve_int) (ve_bin o_add (ve_var 2) ve_int)) (ve_bin o_add (ve_bin o_pow ve_int ve_int) ve_int))))))

theorem ok__law_purse (T : Txt P K mg) : FnOk P w K mg base (L2.CX P w) 35 T.a__law_purse T.d__law_purse ["_law_cell", "_law_k"] (spec K mg 2 none true m__law_purse) := by
  refine @fn_by P w K mg base "_law_purse" "_law_purse" s__law_purse T.a__law_purse T.d__law_purse nn__law_purse ["_law_cell", "_law_k"] 34 2 none true b__law_purse [false, false] [false, false] T.F__law_purse sc__law_purse rfl (fun _ => rfl) (os_ok rfl) rfl (.inr (nn_seq nn_ret)) (fun cdv A outer s H E hr X eX tk hp => ?_)
  subst eX
  unfold b__law_purse
  exact (vss_cons (vs_if (vt_cmp (o_geA (hr.units)) (ve_var 0) (ve_bin o_pow ve_int ve_int)) (vss_one (vs_retO (ve_lstO (va_cons (ve_bin o_sub (ve_var 0) (ve_bin o_pow ve_int ve_int)) (va_cons ve_int (va_cons (ve_var 1) va_nil)))))) vss_nil) (vss_one (vs_retO (ve_lstO (va_cons (ve_call (ok__law_mixed T) tk (hr.mono (by decide)) T.g__law_mixed T.k__law_mixed T.b__law_mixed (va_cons (ve_var 0) (va_cons (ve_var 1) va_nil))) (va_cons ve_int (va_cons (ve_bin o_add (ve_bin o_mod (ve_var 0) (ve_bin o_add (ve_bin o_pow ve_int ve_int) ve_int)) (ve_var 1)) va_nil)))))))

theorem ok__law_take (T : Txt P K mg) : FnOk P w K mg base (L2.CX P w) 35 T.a__law_take T.d__law_take ["_law_purse_here", "_law_many"] (spec K mg 2 (some 0) false m__law_take) := by
  refine @fn_by P w K mg base "_law_take" "_law_take" s__law_take T.a__law_take T.d__law_take nn__law_take ["_law_purse_here", "_law_many"] 34 2 (some 0) false b__law_take [true, false, false] [true, false, false] T.F__law_take sc__law_take rfl (fun _ => rfl) (os_ok rfl) rfl (.inl rfl) (fun cdv A outer s H E hr X eX tk hp => ?_)
  subst eX
  unfold b__law_take
  exact (vss_cons (vs_if (vt_peek (vt_cmp (o_ltA (hr.units)) (ve_ixA (hr.units) (ve_var 0) ve_int) (ve_var 1))) (vss_cons (vs_setA (hr.units) 0 (ve_bin o_add (ve_ixAO (hr.units) 0 ve_int) ve_int) ve_int) (vss_one (vs_setA (hr.units) 0 (ve_bin o_add (ve_ixAO (hr.units) 0 ve_int) (ve_bin o_mul (ve_var 1) (ve_call (ok__law_mixed T) tk (hr.mono (by decide)) T.g__law_mixed T.k__law_mixed T.b__law_mixed (va_cons (ve_ixAO (hr.units) 0 ve_int) (va_cons (ve_bin o_add (ve_bin o_mul ve_int (ve_ixAO (hr.units) 0 ve_int)) ve_int) va_nil))))) ve_int))) vss_nil) (vss_cons (vs_set 2 (ve_bin o_mod (ve_ixAO (hr.units) 0 ve_int) (ve_var 1)) sc__law_take.nd) (vss_cons (vs_setA (hr.units) 0 (ve_bin (o_fdiv (Dv.mk T.seer T.tree (dv_room hr (by decide)) ⟨_, _, rfl, sc__law_take.gen, sc__law_take.co, rfl, rfl⟩)) (ve_ixAO (hr.units) 0 ve_int) (ve_var 1)) ve_int) (vss_one (vs_ret (ve_var 2))))))

theorem ok__law_low (T : Txt P K mg) : FnOk P w K mg base (L2.CX P w) 34 T.a__law_low T.d__law_low ["_law_top", "_law_bottom"] (spec K mg 2 none false m__law_low) := by
  refine @fn_by P w K mg base "_law_low" "_law_low" s__law_low T.a__law_low T.d__law_low nn__law_low ["_law_top", "_law_bottom"] 33 2 none false b__law_low [false, false, false, false] [false, false, false, false] T.F__law_low sc__law_low rfl (fun _ => rfl) (os_ok rfl) rfl (.inl rfl) (fun cdv A outer s H E hr X eX tk hp => ?_)
  subst eX
  unfold b__law_low
  exact (vss_cons (vs_set 2 (ve_callB c_abs (va_cons (ve_var 0) va_nil) T.z_abs bt_abs) sc__law_low.nd) (vss_cons (vs_set 3 (ve_var 1) sc__law_low.nd) (vss_cons (vs_while (fuel := (fuelInt 3)) hp (vt_cmp (o_ne (hr.units)) (ve_var 3) ve_int) (vss_one (vs_par 2 3 (va_cons (ve_var 3) (va_cons (ve_bin o_mod (ve_var 2) (ve_var 3)) va_nil)) sc__law_low.nd))) (vss_one (vs_ret (ve_tup (va_cons (ve_bin (o_fdiv (Dv.mk T.seer T.tree (dv_room hr (by decide)) ⟨_, _, rfl, sc__law_low.gen, sc__law_low.co, rfl, rfl⟩)) (ve_var 0) (ve_var 2)) (va_cons (ve_bin (o_fdiv (Dv.mk T.seer T.tree (dv_room hr (by decide)) ⟨_, _, rfl, sc__law_low.gen, sc__law_low.co, rfl, rfl⟩)) (ve_var 1) (ve_var 2)) va_nil))))))))

theorem ok__law_few (T : Txt P K mg) : FnOk P w K mg base (L2.CX P w) 36 T.a__law_few T.d__law_few ["_law_purse_here"] (spec K mg 1 (some 0) false m__law_few) := by
  refine @fn_by P w K mg base "_law_few" "_law_few" s__law_few T.a__law_few T.d__law_few nn__law_few ["_law_purse_here"] 35 1 (some 0) false b__law_few [true, false] [true, false] T.F__law_few sc__law_few rfl (fun _ => rfl) (os_ok rfl) rfl (.inl rfl) (fun cdv A outer s H E hr X eX tk hp => ?_)
  subst eX
  unfold b__law_few
  exact (vss_cons (vs_set 1 (ve_callM (ok__law_take T) tk (hr.mono (by decide)) T.g__law_take T.k__law_take T.b__law_take (vb_here 0 (va_cons ve_int va_nil))) sc__law_few.nd) (vss_cons (vs_if (vt_cmp (o_ltA (hr.units)) (ve_var 1) ve_int) (vss_one (vs_ret (ve_ixA (hr.units) (VE.fz (ve_lstO (va_cons (ve_tup (va_cons ve_int (va_cons ve_int va_nil))) (va_cons (ve_tup (va_cons (ve_un o_neg ve_int) (va_cons ve_int va_nil))) (va_cons (ve_tup (va_cons ve_int (va_cons ve_int va_nil))) va_nil))))) (ve_var 1)))) vss_nil) (vss_one (vs_ret (ve_call (ok__law_low T) tk (hr.mono (by decide)) T.g__law_low T.k__law_low T.b__law_low (va_cons (ve_bin o_sub (ve_callM (ok__law_take T) tk (hr.mono (by decide)) T.g__law_take T.k__law_take T.b__law_take (vb_here 0 (va_cons (ve_bin o_add (ve_bin o_mul ve_int (ve_bin o_pow ve_int ve_int)) ve_int) va_nil))) (ve_bin o_pow ve_int ve_int)) (va_cons (ve_bin o_add ve_int (ve_callM (ok__law_take T) tk (hr.mono (by decide)) T.g__law_take T.k__law_take T.b__law_take (vb_here 0 (va_cons ve_int va_nil)))) va_nil)))))))

theorem ok_is_whole (T : Txt P K mg) : FnOk P w K mg base (L2.CX P w) 34 T.a_is_whole T.d_is_whole ["one"] (spec K mg 1 none false m_is_whole) := by
  refine @fn_by P w K mg base "is_whole" "is_whole" s_is_whole T.a_is_whole T.d_is_whole nn_is_whole ["one"] 33 1 none false b_is_whole [false] [false] T.F_is_whole sc_is_whole rfl (fun _ => rfl) (os_ok rfl) rfl (.inl rfl) (fun cdv A outer s H E hr X eX tk hp => ?_)
  subst eX
  unfold b_is_whole
  exact (vss_one (vs_ret (ve_and (ve_callB c_isi (va_cons (ve_var 0) (va_cons (ve_ty (T := .int) T.z_int bt_int) va_nil)) T.z_isinstance bt_isinstance) (ve_one (ve_not (ve_callB c_isi (va_cons (ve_var 0) (va_cons (ve_ty (T := .bool) T.z_bool bt_bool) va_nil)) T.z_isinstance bt_isinstance))))))

theorem ok_is_word (T : Txt P K mg) : FnOk P w K mg base (L2.CX P w) 35 T.a_is_word T.d_is_word ["word", "count"] (spec K mg 2 none false m_is_word) := by
  refine @fn_by P w K mg base "is_word" "is_word" s_is_word T.a_is_word T.d_is_word nn_is_word ["word", "count"] 34 2 none false b_is_word [false, false, false] [false, false, false] T.F_is_word sc_is_word rfl (fun _ => rfl) (os_ok rfl) rfl (.inl rfl) (fun cdv A outer s H E hr X eX tk hp => ?_)
  subst eX
  unfold b_is_word
  exact (vss_cons (vs_if (VW.vt (vw_or (vt_not (vt_val (ve_callB c_isi (va_cons (ve_var 0) (va_cons (ve_ty (T := .tuple) T.z_tuple bt_tuple) va_nil)) T.z_isinstance bt_isinstance))) (vw_or1 (vt_cmp (o_gtA (hr.units)) (ve_callB c_lenA (va_cons (ve_var 0) va_nil) T.z_len bt_len) (ve_konst T.c_MOST))))) (vss_one (vs_ret ve_bl)) vss_nil) (vss_cons (vs_for hp (vi_seqA (ve_var 0)) (vg_name 2 sc_is_word.nd) (vss_one (vs_if (VW.vt (vw_or (vt_not (vt_val (ve_call (ok_is_whole T) tk (hr.mono (by decide)) T.g_is_whole T.k_is_whole T.b_is_whole (va_cons (ve_var 2) va_nil)))) (vw_or (vt_cmp (o_ltA (hr.units)) (ve_var 2) ve_int) (vw_or1 (vt_cmp (o_geA (hr.units)) (ve_var 2) (ve_var 1)))))) (vss_one (vs_ret ve_bl)) vss_nil))) (vss_one (vs_ret ve_bl))))

theorem ok_check_word (T : Txt P K mg) : FnOk P w K mg base (L2.CX P w) 36 T.a_check_word T.d_check_word ["word"] (spec K mg 1 none false m_check_word) := by
  refine @fn_by P w K mg base "check_word" "check_word" s_check_word T.a_check_word T.d_check_word nn_check_word ["word"] 35 1 none false b_check_word [false] [false] T.F_check_word sc_check_word rfl (fun _ => rfl) (os_ok rfl) rfl (.inl rfl) (fun cdv A outer s H E hr X eX tk hp => ?_)
  subst eX
  unfold b_check_word
  exact (vss_one (vs_if (vt_not (vt_val (ve_call (ok_is_word T) tk (hr.mono (by decide)) T.g_is_word T.k_is_word T.b_is_word (va_cons (ve_var 0) (va_cons (ve_konst T.c_MOST_LETTERS) va_nil))))) (vss_one vs_stuck) vss_nil))

theorem ok_is_least (T : Txt P K mg) : FnOk P w K mg base (L2.CX P w) 34 T.a_is_least T.d_is_least ["word"] (spec K mg 1 none false m_is_least) := by
  refine @fn_by P w K mg base "is_least" "is_least" s_is_least T.a_is_least T.d_is_least nn_is_least ["word"] 33 1 none false b_is_least [false, false] [false, false] T.F_is_least sc_is_least rfl (fun _ => rfl) (os_ok rfl) rfl (.inl rfl) (fun cdv A outer s H E hr X eX tk hp => ?_)
  subst eX
  unfold b_is_least
  exact (vss_cons (vs_for hp (vi_range2 (va_cons ve_int (va_cons (ve_callB c_lenA (va_cons (ve_var 0) va_nil) T.z_len bt_len) va_nil)) T.z_range) (vg_name 1 sc_is_least.nd) (vss_one (vs_if (vt_cmp (o_geA (hr.units)) (ve_var 0) (ve_slice (ve_var 0) (vo_some (ve_var 1)) vo_none)) (vss_one (vs_ret ve_bl)) vss_nil))) (vss_one (vs_ret (ve_cmp (o_ne (hr.units)) (ve_var 0) (ve_tup va_nil)))))

theorem ok_falling (T : Txt P K mg) : FnOk P w K mg base (L2.CX P w) 35 T.a_falling T.d_falling ["word"] (spec K mg 1 none true m_falling) := by
  refine @fn_by P w K mg base "falling" "falling" s_falling T.a_falling T.d_falling nn_falling ["word"] 34 1 none true b_falling [false, false, false, false] [false, false, false, false] T.F_falling sc_falling rfl (fun _ => rfl) (os_ok rfl) rfl (.inr (nn_seq (nn_seq nn_ret))) (fun cdv A outer s H E hr X eX tk hp => ?_)
  subst eX
  unfold b_falling
  exact (vss_cons (vs_setO 1 (ve_lstO va_nil) sc_falling.nd) (vss_cons (vs_while (fuel := (fuelLen 0)) hp (vt_cmp (o_ne (hr.units)) (ve_var 0) (ve_tup va_nil)) (vss_cons (vs_set 2 (ve_callB (c_maxA rfl) (va_cons (VE.fz (ve_lc (own := [("length", 3)]) (blkOk_by (N := nn_falling) (sc := defScope s_falling) (by decide +kernel)) (vi_range2 (va_cons ve_int (va_cons (ve_bin o_add (ve_callB c_lenA (va_cons (ve_var 0) va_nil) T.z_len bt_len) ve_int) va_nil)) T.z_range) (fun _ _ _ _ _ => (vg_name 3 sc_falling.nd)) (fun _ _ _ _ _ => (vts_one (vt_val (ve_call (ok_is_least T) takes0 (hr.mono (by decide)) T.g_is_least T.k_is_least T.b_is_least (va_cons (ve_slice (ve_var 0) vo_none (vo_some (ve_var 3))) va_nil))))) (fun _ _ _ _ _ => (ve_var 3)) sc_falling.nd)) va_nil) T.z_max bt_max) sc_falling.nd) (vss_cons (vs_expr (ve_ownM 1 own_append PySem.F.plainAttrs_list PySem.F.slot_list_append PySem.F.type_list_append (va_cons (ve_slice (ve_var 0) vo_none (vo_some (ve_var 2))) va_nil))) (vss_one (vs_set 0 (ve_slice (ve_var 0) (vo_some (ve_var 2)) vo_none) sc_falling.nd))))) (vss_one (vs_retV 1))))

theorem ok_fallen (T : Txt P K mg) : FnOk P w K mg base (L2.CX P w) 37 T.a_fallen T.d_fallen ["word"] (spec K mg 1 none true m_fallen) := by
  refine @fn_by P w K mg base "fallen" "fallen" s_fallen T.a_fallen T.d_fallen nn_fallen ["word"] 36 1 none true b_fallen [false] [false] T.F_fallen sc_fallen rfl (fun _ => rfl) (os_ok rfl) rfl (.inr (nn_seq nn_ret)) (fun cdv A outer s H E hr X eX tk hp => ?_)
  subst eX
  unfold b_fallen
  exact (vss_cons (vs_expr (ve_call (ok_check_word T) tk (hr.mono (by decide)) T.g_check_word T.k_check_word T.b_check_word (va_cons (ve_var 0) va_nil))) (vss_one (vs_retO (ve_call (ok_falling T) tk (hr.mono (by decide)) T.g_falling T.k_falling T.b_falling (va_cons (ve_var 0) va_nil)))))

theorem ok__law_word (T : Txt P K mg) : FnOk P w K mg base (L2.CX P w) 36 T.a__law_word T.d__law_word ["_law_purse_here", "_law_count", "_law_most"] (spec K mg 3 (some 0) false m__law_word) := by
  refine @fn_by P w K mg base "_law_word" "_law_word" s__law_word T.a__law_word T.d__law_word nn__law_word ["_law_purse_here", "_law_count", "_law_most"] 35 3 (some 0) false b__law_word [true, false, false, false] [true, false, false, false] T.F__law_word sc__law_word rfl (fun _ => rfl) (os_ok rfl) rfl (.inl rfl) (fun cdv A outer s H E hr X eX tk hp => ?_)
  subst eX
  unfold b__law_word
  exact (vss_one (vs_ret (ve_callTy c_tuple (va_cons (VE.fz (ve_lc (own := [("_law_place", 3)]) (blkOk_by (N := nn__law_word) (sc := defScope s__law_word) (by decide +kernel)) (vi_range1 (va_cons (ve_callM (ok__law_take T) tk (hr.mono (by decide)) T.g__law_take T.k__law_take T.b__law_take (vb_here 0 (va_cons (ve_bin o_add (ve_var 2) ve_int) va_nil))) va_nil) T.z_range) (fun _ _ _ _ _ => (vg_name 3 sc__law_word.nd)) (fun _ _ _ _ _ => vts_nil) (fun _ _ _ _ _ => (ve_callM (ok__law_take T) takes0 (hr.mono (by decide)) T.g__law_take T.k__law_take T.b__law_take (vb_here 0 (va_cons (ve_var 1) va_nil)))) sc__law_word.nd)) va_nil) T.z_tuple bt_tuple)))

theorem ok__law_rows_drawn (T : Txt P K mg) : FnOk P w K mg base (L2.CX P w) 38 T.a__law_rows_drawn T.d__law_rows_drawn ["_law_purse_here", "_law_count"] (spec K mg 2 (some 0) true m__law_rows_drawn) := by
  refine @fn_by P w K mg base "_law_rows_drawn" "_law_rows_drawn" s__law_rows_drawn T.a__law_rows_drawn T.d__law_rows_drawn nn__law_rows_drawn ["_law_purse_here", "_law_count"] 37 2 (some 0) true b__law_rows_drawn [true, false, false, false, false] [true, false, false, false, false] T.F__law_rows_drawn sc__law_rows_drawn rfl (fun _ => rfl) (os_ok rfl) rfl (.inr (nn_seq (nn_seq nn_ret))) (fun cdv A outer s H E hr X eX tk hp => ?_)
  subst eX
  unfold b__law_rows_drawn
  exact (vss_cons (vs_setO 2 ve_dnew sc__law_rows_drawn.nd) (vss_cons (vs_for hp (vi_range1 (va_cons (ve_bin o_add ve_int (ve_callM (ok__law_take T) tk (hr.mono (by decide)) T.g__law_take T.k__law_take T.b__law_take (vb_here 0 (va_cons ve_int va_nil)))) va_nil) T.z_range) (vg_name 3 sc__law_rows_drawn.nd) (vss_one (vs_setA (hr.units) 2 (ve_callM (ok__law_few T) tk (hr.mono (by decide)) T.g__law_few T.k__law_few T.b__law_few (vb_here 0 va_nil)) (ve_callTy c_tuple (va_cons (VE.fz (ve_call (ok_fallen T) tk (hr.mono (by decide)) T.g_fallen T.k_fallen T.b_fallen (va_cons (ve_callM (ok__law_word T) tk (hr.mono (by decide)) T.g__law_word T.k__law_word T.b__law_word (vb_here 0 (va_cons (ve_var 1) (va_cons ve_int va_nil)))) va_nil))) va_nil) T.z_tuple bt_tuple)))) (vss_one (vs_retO (ve_lc (own := [("_law_words", 4)]) (blkOk_by (N := nn__law_rows_drawn) (sc := defScope s__law_rows_drawn) (by decide +kernel)) (vi_seqA (ve_varF 2)) (fun _ _ _ _ _ => (vg_name 4 sc__law_rows_drawn.nd)) (fun _ _ _ _ _ => (vts_one (vt_cmp (o_ne (hr.units)) (ve_ixA (hr.units) (ve_ixA (hr.units) (ve_var 2) (ve_var 4)) ve_int) ve_int))) (fun _ _ _ _ _ => (ve_tup (va_cons (ve_var 4) (va_cons (ve_ixA (hr.units) (ve_var 2) (ve_var 4)) va_nil)))) sc__law_rows_drawn.nd)))))

theorem ok__law_rank (T : Txt P K mg) : FnOk P w K mg base (L2.CX P w) 34 T.a__law_rank T.d__law_rank ["_law_word_here"] (spec K mg 1 none false m__law_rank) := by
  refine @fn_by P w K mg base "_law_rank" "_law_rank" s__law_rank T.a__law_rank T.d__law_rank nn__law_rank ["_law_word_here"] 33 1 none false b__law_rank [false] [false] T.F__law_rank sc__law_rank rfl (fun _ => rfl) (os_ok rfl) rfl (.inl rfl) (fun cdv A outer s H E hr X eX tk hp => ?_)
  subst eX
  unfold b__law_rank
  exact (vss_one (vs_ret (ve_tup (va_cons (ve_callB c_lenA (va_cons (ve_var 0) va_nil) T.z_len bt_len) (va_cons (ve_var 0) va_nil)))))

theorem ok__law_told (T : Txt P K mg) : FnOk P w K mg base (L2.CX P w) 37 T.a__law_told T.d__law_told ["_law_found"] (spec K mg 1 none true m__law_told) := by
  refine @fn_by P w K mg base "_law_told" "_law_told" s__law_told T.a__law_told T.d__law_told nn__law_told ["_law_found"] 36 1 none true b__law_told [false, false] [false, false] T.F__law_told sc__law_told rfl (fun _ => rfl) (os_ok rfl) rfl (.inr nn_ret) (fun cdv A outer s H E hr X eX tk hp => ?_)
  subst eX
  unfold b__law_told
  exact (vss_one (vs_retO (ve_lc (own := [("_law_word_here", 1)]) (blkOk_by (N := nn__law_told) (sc := defScope s__law_told) (by decide +kernel)) (vi_seqA (VE.fz (ve_sortK (ok__law_rank T) (hr.mono (by decide)) T.g__law_rank T.b__law_rank (ve_var 0) T.z_sorted))) (fun _ _ _ _ _ => (vg_name 1 sc__law_told.nd)) (fun _ _ _ _ _ => vts_nil) (fun _ _ _ _ _ => (ve_tup (va_cons (ve_var 1) (va_cons (ve_ixA (hr.units) (ve_var 0) (ve_var 1)) va_nil)))) sc__law_told.nd)))

theorem ok_check_count (T : Txt P K mg) : FnOk P w K mg base (L2.CX P w) 35 T.a_check_count T.d_check_count ["count"] (spec K mg 1 none false m_check_count) := by
  refine @fn_by P w K mg base "check_count" "check_count" s_check_count T.a_check_count T.d_check_count nn_check_count ["count"] 34 1 none false b_check_count [false] [false] T.F_check_count sc_check_count rfl (fun _ => rfl) (os_ok rfl) rfl (.inl rfl) (fun cdv A outer s H E hr X eX tk hp => ?_)
  subst eX
  unfold b_check_count
  exact (vss_one (vs_if (VW.vt (vw_or (vt_not (vt_val (ve_call (ok_is_whole T) tk (hr.mono (by decide)) T.g_is_whole T.k_is_whole T.b_is_whole (va_cons (ve_var 0) va_nil)))) (vw_or (vt_cmp (o_ltA (hr.units)) (ve_var 0) ve_int) (vw_or1 (vt_cmp (o_gtA (hr.units)) (ve_var 0) (ve_konst T.c_MOST_LETTERS)))))) (vss_one vs_stuck) vss_nil))

theorem ok_divisor (T : Txt P K mg) : FnOk P w K mg base (L2.CX P w) 34 T.a_divisor T.d_divisor ["one", "other"] (spec K mg 2 none false m_divisor) := by
  refine @fn_by P w K mg base "divisor" "divisor" s_divisor T.a_divisor T.d_divisor nn_divisor ["one", "other"] 33 2 none false b_divisor [false, false] [false, false] T.F_divisor sc_divisor rfl (fun _ => rfl) (os_ok rfl) rfl (.inl rfl) (fun cdv A outer s H E hr X eX tk hp => ?_)
  subst eX
  unfold b_divisor
  exact (vss_cons (vs_set 0 (ve_callB c_abs (va_cons (ve_var 0) va_nil) T.z_abs bt_abs) sc_divisor.nd) (vss_cons (vs_set 1 (ve_callB c_abs (va_cons (ve_var 1) va_nil) T.z_abs bt_abs) sc_divisor.nd) (vss_cons (vs_while (fuel := (fuelInt 1)) hp (vt_cmp (o_ne (hr.units)) (ve_var 1) ve_int) (vss_one (vs_par 0 1 (va_cons (ve_var 1) (va_cons (ve_bin o_mod (ve_var 0) (ve_var 1)) va_nil)) sc_divisor.nd))) (vss_one (vs_ret (ve_var 0))))))

theorem ok_is_number (T : Txt P K mg) : FnOk P w K mg base (L2.CX P w) 35 T.a_is_number T.d_is_number ["one"] (spec K mg 1 none false m_is_number) := by
  refine @fn_by P w K mg base "is_number" "is_number" s_is_number T.a_is_number T.d_is_number nn_is_number ["one"] 34 1 none false b_is_number [false] [false] T.F_is_number sc_is_number rfl (fun _ => rfl) (os_ok rfl) rfl (.inl rfl) (fun cdv A outer s H E hr X eX tk hp => ?_)
  subst eX
  unfold b_is_number
  exact (vss_cons (vs_if (VW.vt (vw_or (vt_not (vt_val (ve_callB c_isi (va_cons (ve_var 0) (va_cons (ve_ty (T := .tuple) T.z_tuple bt_tuple) va_nil)) T.z_isinstance bt_isinstance))) (vw_or1 (vt_cmp (o_ne (hr.units)) (ve_callB c_lenA (va_cons (ve_var 0) va_nil) T.z_len bt_len) ve_int)))) (vss_one (vs_ret ve_bl)) vss_nil) (vss_cons (vs_if (VW.vt (vw_or (vt_not (vt_val (ve_call (ok_is_whole T) tk (hr.mono (by decide)) T.g_is_whole T.k_is_whole T.b_is_whole (va_cons (ve_ixA (hr.units) (ve_var 0) ve_int) va_nil)))) (vw_or1 (vt_not (vt_val (ve_call (ok_is_whole T) tk (hr.mono (by decide)) T.g_is_whole T.k_is_whole T.b_is_whole (va_cons (ve_ixA (hr.units) (ve_var 0) ve_int) va_nil))))))) (vss_one (vs_ret ve_bl)) vss_nil) (vss_one (vs_ret (ve_and (ve_cmp (o_geA (hr.units)) (ve_ixA (hr.units) (ve_var 0) ve_int) ve_int) (ve_one (ve_cmp (o_eq (hr.units)) (ve_call (ok_divisor T) tk (hr.mono (by decide)) T.g_divisor T.k_divisor T.b_divisor (va_cons (ve_ixA (hr.units) (ve_var 0) ve_int) (va_cons (ve_ixA (hr.units) (ve_var 0) ve_int) va_nil))) ve_int)))))))

theorem ok_is_term (T : Txt P K mg) : FnOk P w K mg base (L2.CX P w) 36 T.a_is_term T.d_is_term ["told", "count"] (spec K mg 2 none false m_is_term) := by
  refine @fn_by P w K mg base "is_term" "is_term" s_is_term T.a_is_term T.d_is_term nn_is_term ["told", "count"] 35 2 none false b_is_term [false, false] [false, false] T.F_is_term sc_is_term rfl (fun _ => rfl) (os_ok rfl) rfl (.inl rfl) (fun cdv A outer s H E hr X eX tk hp => ?_)
  subst eX
  unfold b_is_term
  exact (vss_cons (vs_if (VW.vt (vw_or (vt_not (vt_val (ve_callB c_isi (va_cons (ve_var 0) (va_cons (ve_ty (T := .tuple) T.z_tuple bt_tuple) va_nil)) T.z_isinstance bt_isinstance))) (vw_or1 (vt_cmp (o_ne (hr.units)) (ve_callB c_lenA (va_cons (ve_var 0) va_nil) T.z_len bt_len) ve_int)))) (vss_one (vs_ret ve_bl)) vss_nil) (vss_one (vs_ret (ve_and (ve_call (ok_is_word T) tk (hr.mono (by decide)) T.g_is_word T.k_is_word T.b_is_word (va_cons (ve_ixA (hr.units) (ve_var 0) ve_int) (va_cons (ve_var 1) va_nil))) (ve_and (ve_call (ok_is_number T) tk (hr.mono (by decide)) T.g_is_number T.k_is_number T.b_is_number (va_cons (ve_ixA (hr.units) (ve_var 0) ve_int) va_nil)) (ve_one (ve_cmp (o_ne (hr.units)) (ve_ixA (hr.units) (ve_ixA (hr.units) (ve_var 0) ve_int) ve_int) ve_int)))))))

theorem ok_rank (T : Txt P K mg) : FnOk P w K mg base (L2.CX P w) 34 T.a_rank T.d_rank ["word"] (spec K mg 1 none false m_rank) := by
  refine @fn_by P w K mg base "rank" "rank" s_rank T.a_rank T.d_rank nn_rank ["word"] 33 1 none false b_rank [false] [false] T.F_rank sc_rank rfl (fun _ => rfl) (os_ok rfl) rfl (.inl rfl) (fun cdv A outer s H E hr X eX tk hp => ?_)
  subst eX
  unfold b_rank
  exact (vss_one (vs_ret (ve_tup (va_cons (ve_callB c_lenA (va_cons (ve_var 0) va_nil) T.z_len bt_len) (va_cons (ve_var 0) va_nil)))))

theorem ok_check_sum (T : Txt P K mg) : FnOk P w K mg base (L2.CX P w) 37 T.a_check_sum T.d_check_sum ["count", "total"] (spec K mg 2 none false m_check_sum) := by
  refine @fn_by P w K mg base "check_sum" "check_sum" s_check_sum T.a_check_sum T.d_check_sum nn_check_sum ["count", "total"] 36 2 none false b_check_sum [false, false, false, false] [false, false, false, false] T.F_check_sum sc_check_sum rfl (fun _ => rfl) (os_ok rfl) rfl (.inl rfl) (fun cdv A outer s H E hr X eX tk hp => ?_)
  subst eX
  unfold b_check_sum
  exact (vss_one (vs_for hp (vi_enum (va_cons (ve_var 1) va_nil) T.z_enumerate) (vg_tup (vgs_cons (vg_name 2 sc_check_sum.nd) (vgs_cons (vg_name 3 sc_check_sum.nd) vgs_nil))) (vss_cons (vs_if (vt_not (vt_val (ve_call (ok_is_term T) tk (hr.mono (by decide)) T.g_is_term T.k_is_term T.b_is_term (va_cons (ve_var 3) (va_cons (ve_var 0) va_nil))))) (vss_one vs_stuck) vss_nil) (vss_one (vs_if (VW.vt (vw_and (vt_cmp (o_gtA (hr.units)) (ve_var 2) ve_int) (vw_and1 (vt_cmp (o_geA (hr.units)) (ve_call (ok_rank T) tk (hr.mono (by decide)) T.g_rank T.k_rank T.b_rank (va_cons (ve_ixA (hr.units) (ve_ixA (hr.units) (ve_var 1) (ve_bin o_sub (ve_var 2) ve_int)) ve_int) va_nil)) (ve_call (ok_rank T) tk (hr.mono (by decide)) T.g_rank T.k_rank T.b_rank (va_cons (ve_ixA (hr.units) (ve_var 3) ve_int) va_nil)))))) (vss_one vs_stuck) vss_nil)))))

theorem ok_gathered (T : Txt P K mg) : FnOk P w K mg base (L2.CX P w) 34 T.a_gathered T.d_gathered ["total"] (spec K mg 1 none true m_gathered) := by
  refine @fn_by P w K mg base "gathered" "gathered" s_gathered T.a_gathered T.d_gathered nn_gathered ["total"] 33 1 none true b_gathered [false] [false] T.F_gathered sc_gathered rfl (fun _ => rfl) (os_ok rfl) rfl (.inr nn_ret) (fun cdv A outer s H E hr X eX tk hp => ?_)
  subst eX
  unfold b_gathered
  exact (vss_one (vs_retO (ve_dictL (hr.units) (ve_var 0) T.z_dict)))

theorem ok_lowest (T : Txt P K mg) : FnOk P w K mg base (L2.CX P w) 35 T.a_lowest T.d_lowest ["top", "bottom"] (spec K mg 2 none false m_lowest) := by
  refine @fn_by P w K mg base "lowest" "lowest" s_lowest T.a_lowest T.d_lowest nn_lowest ["top", "bottom"] 34 2 none false b_lowest [false, false, false] [false, false, false] T.F_lowest sc_lowest rfl (fun _ => rfl) (os_ok rfl) rfl (.inl rfl) (fun cdv A outer s H E hr X eX tk hp => ?_)
  subst eX
  unfold b_lowest
  exact (vss_cons (vs_if (vt_cmp (o_ltA (hr.units)) (ve_var 1) ve_int) (vss_cons (vs_set 0 (ve_un o_neg (ve_var 0)) sc_lowest.nd) (vss_one (vs_set 1 (ve_un o_neg (ve_var 1)) sc_lowest.nd))) vss_nil) (vss_cons (vs_set 2 (ve_call (ok_divisor T) tk (hr.mono (by decide)) T.g_divisor T.k_divisor T.b_divisor (va_cons (ve_var 0) (va_cons (ve_var 1) va_nil))) sc_lowest.nd) (vss_one (vs_ret (ve_tup (va_cons (ve_bin (o_fdiv (Dv.mk T.seer T.tree (dv_room hr (by decide)) ⟨_, _, rfl, sc_lowest.gen, sc_lowest.co, rfl, rfl⟩)) (ve_var 0) (ve_var 2)) (va_cons (ve_bin (o_fdiv (Dv.mk T.seer T.tree (dv_room hr (by decide)) ⟨_, _, rfl, sc_lowest.gen, sc_lowest.co, rfl, rfl⟩)) (ve_var 1) (ve_var 2)) va_nil)))))))

theorem ok_plus (T : Txt P K mg) : FnOk P w K mg base (L2.CX P w) 36 T.a_plus T.d_plus ["one", "other"] (spec K mg 2 none false m_plus) := by
  refine @fn_by P w K mg base "plus" "plus" s_plus T.a_plus T.d_plus nn_plus ["one", "other"] 35 2 none false b_plus [false, false] [false, false] T.F_plus sc_plus rfl (fun _ => rfl) (os_ok rfl) rfl (.inl rfl) (fun cdv A outer s H E hr X eX tk hp => ?_)
  subst eX
  unfold b_plus
  exact (vss_cons (vs_if (VW.vt (vw_and (vt_cmp (o_eq (hr.units)) (ve_ixA (hr.units) (ve_var 0) ve_int) ve_int) (vw_and1 (vt_cmp (o_eq (hr.units)) (ve_ixA (hr.units) (ve_var 1) ve_int) ve_int)))) (vss_one (vs_ret (ve_tup (va_cons (ve_bin o_add (ve_ixA (hr.units) (ve_var 0) ve_int) (ve_ixA (hr.units) (ve_var 1) ve_int)) (va_cons ve_int va_nil))))) vss_nil) (vss_one (vs_ret (ve_call (ok_lowest T) tk (hr.mono (by decide)) T.g_lowest T.k_lowest T.b_lowest (va_cons (ve_bin o_add (ve_bin o_mul (ve_ixA (hr.units) (ve_var 0) ve_int) (ve_ixA (hr.units) (ve_var 1) ve_int)) (ve_bin o_mul (ve_ixA (hr.units) (ve_var 1) ve_int) (ve_ixA (hr.units) (ve_var 0) ve_int))) (va_cons (ve_bin o_mul (ve_ixA (hr.units) (ve_var 0) ve_int) (ve_ixA (hr.units) (ve_var 1) ve_int)) va_nil))))))

theorem ok_put_to (T : Txt P K mg) : FnOk P w K mg base (L2.CX P w) 37 T.a_put_to T.d_put_to ["numbers", "word", "number"] (spec K mg 3 (some 0) false m_put_to) := by
  refine @fn_by P w K mg base "put_to" "put_to" s_put_to T.a_put_to T.d_put_to nn_put_to ["numbers", "word", "number"] 36 3 (some 0) false b_put_to [true, false, false, false] [true, false, false, false] T.F_put_to sc_put_to rfl (fun _ => rfl) (os_ok rfl) rfl (.inl rfl) (fun cdv A outer s H E hr X eX tk hp => ?_)
  subst eX
  unfold b_put_to
  exact (vss_cons (vs_set 3 (ve_call (ok_plus T) tk (hr.mono (by decide)) T.g_plus T.k_plus T.b_plus (va_cons (ve_dgetO (hr.units) 0 (ve_var 1) (ve_konst T.c_NOUGHT)) (va_cons (ve_var 2) va_nil))) sc_put_to.nd) (vss_one (vs_if (vt_cmp (o_ne (hr.units)) (ve_ixA (hr.units) (ve_var 3) ve_int) ve_int) (vss_one (vs_setA (hr.units) 0 (ve_var 3) (ve_var 1))) (vss_one (vs_if (vt_peek (vt_cmp (o_inA (hu65 hr)) (ve_var 1) (ve_var 0))) (vss_one (vs_expr (ve_dpop (hr.units) 0 (ve_var 1)))) vss_nil)))))

theorem ok_times (T : Txt P K mg) : FnOk P w K mg base (L2.CX P w) 36 T.a_times T.d_times ["one", "other"] (spec K mg 2 none false m_times) := by
  refine @fn_by P w K mg base "times" "times" s_times T.a_times T.d_times nn_times ["one", "other"] 35 2 none false b_times [false, false] [false, false] T.F_times sc_times rfl (fun _ => rfl) (os_ok rfl) rfl (.inl rfl) (fun cdv A outer s H E hr X eX tk hp => ?_)
  subst eX
  unfold b_times
  exact (vss_cons (vs_if (VW.vt (vw_and (vt_cmp (o_eq (hr.units)) (ve_ixA (hr.units) (ve_var 0) ve_int) ve_int) (vw_and1 (vt_cmp (o_eq (hr.units)) (ve_ixA (hr.units) (ve_var 1) ve_int) ve_int)))) (vss_one (vs_ret (ve_tup (va_cons (ve_bin o_mul (ve_ixA (hr.units) (ve_var 0) ve_int) (ve_ixA (hr.units) (ve_var 1) ve_int)) (va_cons ve_int va_nil))))) vss_nil) (vss_one (vs_ret (ve_call (ok_lowest T) tk (hr.mono (by decide)) T.g_lowest T.k_lowest T.b_lowest (va_cons (ve_bin o_mul (ve_ixA (hr.units) (ve_var 0) ve_int) (ve_ixA (hr.units) (ve_var 1) ve_int)) (va_cons (ve_bin o_mul (ve_ixA (hr.units) (ve_var 0) ve_int) (ve_ixA (hr.units) (ve_var 1) ve_int)) va_nil))))))

theorem ok_joined_to (T : Txt P K mg) : FnOk P w K mg base (L2.CX P w) 38 T.a_joined_to T.d_joined_to ["numbers", "one", "other"] (spec K mg 3 (some 0) false m_joined_to) := by
  refine @fn_by P w K mg base "joined_to" "joined_to" s_joined_to T.a_joined_to T.d_joined_to nn_joined_to ["numbers", "one", "other"] 37 3 (some 0) false b_joined_to [true, false, false, false, false, false, false] [true, false, false, false, false, false, false] T.F_joined_to sc_joined_to rfl (fun _ => rfl) (os_ok rfl) rfl (.inl rfl) (fun cdv A outer s H E hr X eX tk hp => ?_)
  subst eX
  unfold b_joined_to
  exact (vss_one (vs_for hp (vi_seqA (ve_var 1)) (vg_tup (vgs_cons (vg_name 3 sc_joined_to.nd) (vgs_cons (vg_name 4 sc_joined_to.nd) vgs_nil))) (vss_one (vs_for hp (vi_seqA (ve_var 2)) (vg_tup (vgs_cons (vg_name 5 sc_joined_to.nd) (vgs_cons (vg_name 6 sc_joined_to.nd) vgs_nil))) (vss_one (vs_expr (ve_callM (ok_put_to T) tk (hr.mono (by decide)) T.g_put_to T.k_put_to T.b_put_to (vb_here 0 (va_cons (ve_bin o_add (ve_var 3) (ve_var 5)) (va_cons (ve_call (ok_times T) tk (hr.mono (by decide)) T.g_times T.k_times T.b_times (va_cons (ve_var 4) (va_cons (ve_var 6) va_nil))) va_nil))))))))))

theorem ok_told_sum (T : Txt P K mg) : FnOk P w K mg base (L2.CX P w) 37 T.a_told_sum T.d_told_sum ["numbers"] (spec K mg 1 none true m_told_sum) := by
  refine @fn_by P w K mg base "told_sum" "told_sum" s_told_sum T.a_told_sum T.d_told_sum nn_told_sum ["numbers"] 36 1 none true b_told_sum [false, false] [false, false] T.F_told_sum sc_told_sum rfl (fun _ => rfl) (os_ok rfl) rfl (.inr nn_ret) (fun cdv A outer s H E hr X eX tk hp => ?_)
  subst eX
  unfold b_told_sum
  exact (vss_one (vs_retO (ve_lc (own := [("word", 1)]) (blkOk_by (N := nn_told_sum) (sc := defScope s_told_sum) (by decide +kernel)) (vi_seqA (VE.fz (ve_sortK (ok_rank T) (hr.mono (by decide)) T.g_rank T.b_rank (ve_var 0) T.z_sorted))) (fun _ _ _ _ _ => (vg_name 1 sc_told_sum.nd)) (fun _ _ _ _ _ => vts_nil) (fun _ _ _ _ _ => (ve_tup (va_cons (ve_var 1) (va_cons (ve_ixA (hr.units) (ve_var 0) (ve_var 1)) va_nil)))) sc_told_sum.nd)))

theorem ok_contrary (T : Txt P K mg) : FnOk P w K mg base (L2.CX P w) 34 T.a_contrary T.d_contrary ["one"] (spec K mg 1 none false m_contrary) := by
  refine @fn_by P w K mg base "contrary" "contrary" s_contrary T.a_contrary T.d_contrary nn_contrary ["one"] 33 1 none false b_contrary [false] [false] T.F_contrary sc_contrary rfl (fun _ => rfl) (os_ok rfl) rfl (.inl rfl) (fun cdv A outer s H E hr X eX tk hp => ?_)
  subst eX
  unfold b_contrary
  exact (vss_one (vs_ret (ve_tup (va_cons (ve_un o_neg (ve_ixA (hr.units) (ve_var 0) ve_int)) (va_cons (ve_ixA (hr.units) (ve_var 0) ve_int) va_nil)))))

theorem okr_said_by (T : Txt P K mg) : ∀ n, FnOk P w K mg base (L2.CX P w) (39 + n) T.a_said_by T.d_said_by ["tree"] (spec K mg 1 none true (mr_said_by n))
  | 0 => by
    refine @fn_by P w K mg base "said_by" "said_by" s_said_by T.a_said_by T.d_said_by nn_said_by ["tree"] 38 1 none true sStuck [false, false, false, false, false, false] [false, false, false, false, false, false] T.F_said_by sc_said_by rfl (fun _ => rfl) (os_ok rfl) rfl (.inr nn_stuck) (fun cdv A outer s H E hr X eX tk hp => ?_)
    subst eX
    exact vss_stuck
  | n + 1 => by
    refine @fn_by P w K mg base "said_by" "said_by" s_said_by T.a_said_by T.d_said_by nn_said_by ["tree"] (39 + n) 1 none true (b_said_by (mr_said_by n)) [false, false, false, false, false, false] [false, false, false, false, false, false] T.F_said_by sc_said_by rfl (fun _ => rfl) (os_ok rfl) rfl (.inr (nn_seq (nn_seq (nn_seq (nn_seq (nn_seq (nn_seq nn_ret))))))) (fun cdv A outer s H E hr X eX tk hp => ?_)
    subst eX
    unfold b_said_by
    exact (vss_cons (vs_if (vt_not (vt_val (ve_callB c_isi (va_cons (ve_var 0) (va_cons (ve_ty (T := .tuple) T.z_tuple bt_tuple) va_nil)) T.z_isinstance bt_isinstance))) (vss_one (vs_retO (ve_lstO (va_cons (ve_tup (va_cons (ve_tup (va_cons (ve_var 0) va_nil)) (va_cons (ve_konst T.c_ONE) va_nil))) va_nil)))) vss_nil) (vss_cons (vs_set 1 (VE.fz (ve_call (okr_said_by T n) tk (hr.mono (by omega)) T.g_said_by T.k_said_by T.b_said_by (va_cons (ve_ixA (hr.units) (ve_var 0) ve_int) va_nil))) sc_said_by.nd) (vss_cons (vs_set 2 (VE.fz (ve_call (okr_said_by T n) tk (hr.mono (by omega)) T.g_said_by T.k_said_by T.b_said_by (va_cons (ve_ixA (hr.units) (ve_var 0) ve_int) va_nil))) sc_said_by.nd) (vss_cons (vs_setO 3 ve_dnew sc_said_by.nd) (vss_cons (vs_expr (ve_callM (ok_joined_to T) tk (hr.mono (by omega)) T.g_joined_to T.k_joined_to T.b_joined_to (vb_here 3 (va_cons (ve_var 1) (va_cons (ve_var 2) va_nil))))) (vss_cons (vs_expr (ve_callM (ok_joined_to T) tk (hr.mono (by omega)) T.g_joined_to T.k_joined_to T.b_joined_to (vb_here 3 (va_cons (ve_var 2) (va_cons (VE.fz (ve_lc (own := [("word", 4), ("number", 5)]) (blkOk_by (N := nn_said_by) (sc := defScope s_said_by) (by decide +kernel)) (vi_seqA (ve_var 1)) (fun _ _ _ _ _ => (vg_tup (vgs_cons (vg_name 4 sc_said_by.nd) (vgs_cons (vg_name 5 sc_said_by.nd) vgs_nil)))) (fun _ _ _ _ _ => vts_nil) (fun _ _ _ _ _ => (ve_tup (va_cons (ve_var 4) (va_cons (ve_call (ok_contrary T) takes0 (hr.mono (by omega)) T.g_contrary T.k_contrary T.b_contrary (va_cons (ve_var 5) va_nil)) va_nil)))) sc_said_by.nd)) va_nil))))) (vss_one (vs_retO (ve_peekL (ve_call (ok_told_sum T) tk (hr.mono (by omega)) T.g_told_sum T.k_told_sum T.b_told_sum (va_cons (ve_var 3) va_nil)))))))))))
theorem ok_said_by (T : Txt P K mg) : FnOk P w K mg base (L2.CX P w) 47 T.a_said_by T.d_said_by ["tree"] (spec K mg 1 none true m_said_by) := okr_said_by T 8

theorem okr_tree_by (T : Txt P K mg) : ∀ n, FnOk P w K mg base (L2.CX P w) (35 + n) T.a_tree_by T.d_tree_by ["word"] (spec K mg 1 none false (mr_tree_by n))
  | 0 => by
    refine @fn_by P w K mg base "tree_by" "tree_by" s_tree_by T.a_tree_by T.d_tree_by nn_tree_by ["word"] 34 1 none false sStuck [false, false, false] [false, false, false] T.F_tree_by sc_tree_by rfl (fun _ => rfl) (os_ok rfl) rfl (.inl rfl) (fun cdv A outer s H E hr X eX tk hp => ?_)
    subst eX
    exact vss_stuck
  | n + 1 => by
    refine @fn_by P w K mg base "tree_by" "tree_by" s_tree_by T.a_tree_by T.d_tree_by nn_tree_by ["word"] (35 + n) 1 none false (b_tree_by (mr_tree_by n)) [false, false, false] [false, false, false] T.F_tree_by sc_tree_by rfl (fun _ => rfl) (os_ok rfl) rfl (.inl rfl) (fun cdv A outer s H E hr X eX tk hp => ?_)
    subst eX
    unfold b_tree_by
    exact (vss_cons (vs_if (vt_cmp (o_eq (hr.units)) (ve_callB c_lenA (va_cons (ve_var 0) va_nil) T.z_len bt_len) ve_int) (vss_one (vs_ret (ve_ixA (hr.units) (ve_var 0) ve_int))) vss_nil) (vss_cons (vs_set 1 (ve_callB (c_minA rfl) (va_cons (VE.fz (ve_lc (own := [("at", 2)]) (blkOk_by (N := nn_tree_by) (sc := defScope s_tree_by) (by decide +kernel)) (vi_range2 (va_cons ve_int (va_cons (ve_callB c_lenA (va_cons (ve_var 0) va_nil) T.z_len bt_len) va_nil)) T.z_range) (fun _ _ _ _ _ => (vg_name 2 sc_tree_by.nd)) (fun _ _ _ _ _ => (vts_one (vt_val (ve_call (ok_is_least T) takes0 (hr.mono (by omega)) T.g_is_least T.k_is_least T.b_is_least (va_cons (ve_slice (ve_var 0) (vo_some (ve_var 2)) vo_none) va_nil))))) (fun _ _ _ _ _ => (ve_var 2)) sc_tree_by.nd)) va_nil) T.z_min bt_min) sc_tree_by.nd) (vss_one (vs_ret (ve_tup (va_cons (ve_call (okr_tree_by T n) tk (hr.mono (by omega)) T.g_tree_by T.k_tree_by T.b_tree_by (va_cons (ve_slice (ve_var 0) vo_none (vo_some (ve_var 1))) va_nil)) (va_cons (ve_call (okr_tree_by T n) tk (hr.mono (by omega)) T.g_tree_by T.k_tree_by T.b_tree_by (va_cons (ve_slice (ve_var 0) (vo_some (ve_var 1)) vo_none) va_nil)) va_nil)))))))
theorem ok_tree_by (T : Txt P K mg) : FnOk P w K mg base (L2.CX P w) 43 T.a_tree_by T.d_tree_by ["word"] (spec K mg 1 none false m_tree_by) := okr_tree_by T 8

theorem ok_joined_trees (T : Txt P K mg) : FnOk P w K mg base (L2.CX P w) 48 T.a_joined_trees T.d_joined_trees ["words"] (spec K mg 1 none false m_joined_trees) := by
  refine @fn_by P w K mg base "joined_trees" "joined_trees" s_joined_trees T.a_joined_trees T.d_joined_trees nn_joined_trees ["words"] 47 1 none false b_joined_trees [false, false, false, false] [false, false, false, false] T.F_joined_trees sc_joined_trees rfl (fun _ => rfl) (os_ok rfl) rfl (.inl rfl) (fun cdv A outer s H E hr X eX tk hp => ?_)
  subst eX
  unfold b_joined_trees
  exact (vss_cons (vs_set 1 (VE.fz (ve_lstO (va_cons (ve_tup (va_cons (ve_tup va_nil) (va_cons (ve_konst T.c_ONE) va_nil))) va_nil))) sc_joined_trees.nd) (vss_cons (vs_for hp (vi_seqA (ve_var 0)) (vg_name 2 sc_joined_trees.nd) (VSs.fz (osN := [false, false, false, true]) 3 (vss_cons (vs_setO 3 ve_dnew sc_joined_trees.nd) (vss_cons (vs_expr (ve_callM (ok_joined_to T) tk (hr.mono (by decide)) T.g_joined_to T.k_joined_to T.b_joined_to (vb_here 3 (va_cons (ve_var 1) (va_cons (VE.fz (ve_call (ok_said_by T) tk (hr.mono (by decide)) T.g_said_by T.k_said_by T.b_said_by (va_cons (ve_call (ok_tree_by T) tk (hr.mono (by decide)) T.g_tree_by T.k_tree_by T.b_tree_by (va_cons (ve_var 2) va_nil)) va_nil))) va_nil))))) (vss_one (vs_set 1 (VE.fz (ve_peekL (ve_call (ok_told_sum T) tk (hr.mono (by decide)) T.g_told_sum T.k_told_sum T.b_told_sum (va_cons (ve_var 3) va_nil)))) sc_joined_trees.nd)))))) (vss_one (vs_ret (ve_var 1)))))

theorem ok_told_by_least (T : Txt P K mg) : FnOk P w K mg base (L2.CX P w) 49 T.a_told_by_least T.d_told_by_least ["count", "total"] (spec K mg 2 none true m_told_by_least) := by
  refine @fn_by P w K mg base "told_by_least" "told_by_least" s_told_by_least T.a_told_by_least T.d_told_by_least nn_told_by_least ["count", "total"] 48 2 none true b_told_by_least [false, false, false, false, false, false, false, false, false] [false, false, false, false, false, false, false, false, false] T.F_told_by_least sc_told_by_least rfl (fun _ => rfl) (os_ok rfl) rfl (.inr (nn_seq (nn_seq (nn_seq (nn_seq (nn_seq nn_ret)))))) (fun cdv A outer s H E hr X eX tk hp => ?_)
  subst eX
  unfold b_told_by_least
  exact (vss_cons (vs_expr (ve_call (ok_check_count T) tk (hr.mono (by decide)) T.g_check_count T.k_check_count T.b_check_count (va_cons (ve_var 0) va_nil))) (vss_cons (vs_expr (ve_call (ok_check_sum T) tk (hr.mono (by decide)) T.g_check_sum T.k_check_sum T.b_check_sum (va_cons (ve_var 0) (va_cons (ve_var 1) va_nil)))) (vss_cons (vs_setO 2 (ve_call (ok_gathered T) tk (hr.mono (by decide)) T.g_gathered T.k_gathered T.b_gathered (va_cons (ve_var 1) va_nil)) sc_told_by_least.nd) (vss_cons (vs_setO 3 (ve_lstO va_nil) sc_told_by_least.nd) (vss_cons (vs_while (fuel := (fun _ => 2000)) hp (vt_peek (vt_cmp (o_gtA (hr.units)) (ve_callB c_lenA (va_cons (ve_var 2) va_nil) T.z_len bt_len) ve_int)) (vss_cons (vs_set 4 (ve_peekT (ve_minK (ok_rank T) (hr.mono (by decide)) T.g_rank T.b_rank (ve_var 2) T.z_min)) sc_told_by_least.nd) (vss_cons (vs_set 5 (ve_ixAO (hr.units) 2 (ve_var 4)) sc_told_by_least.nd) (vss_cons (vs_set 6 (VE.fz (ve_call (ok_falling T) tk (hr.mono (by decide)) T.g_falling T.k_falling T.b_falling (va_cons (ve_var 4) va_nil))) sc_told_by_least.nd) (vss_cons (vs_expr (ve_ownM 3 own_append PySem.F.plainAttrs_list PySem.F.slot_list_append PySem.F.type_list_append (va_cons (ve_tup (va_cons (ve_callTy c_tuple (va_cons (ve_var 6) va_nil) T.z_tuple bt_tuple) (va_cons (ve_var 5) va_nil))) va_nil))) (vss_one (vs_for hp (vi_seqA (ve_call (ok_joined_trees T) tk (hr.mono (by decide)) T.g_joined_trees T.k_joined_trees T.b_joined_trees (va_cons (ve_var 6) va_nil))) (vg_tup (vgs_cons (vg_name 7 sc_told_by_least.nd) (vgs_cons (vg_name 8 sc_told_by_least.nd) vgs_nil))) (vss_one (vs_expr (ve_callM (ok_put_to T) tk (hr.mono (by decide)) T.g_put_to T.k_put_to T.b_put_to (vb_here 2 (va_cons (ve_var 7) (va_cons (ve_call (ok_times T) tk (hr.mono (by decide)) T.g_times T.k_times T.b_times (va_cons (ve_call (ok_contrary T) tk (hr.mono (by decide)) T.g_contrary T.k_contrary T.b_contrary (va_cons (ve_var 5) va_nil)) (va_cons (ve_var 8) va_nil))) va_nil))))))))))))) (vss_one (vs_retV 3)))))))

theorem ok__law_at (T : Txt P K mg) : FnOk P w K mg base (L2.CX P w) 34 T.a__law_at T.d__law_at ["_law_script", "_law_k"] (spec K mg 2 none false m__law_at) := by
  refine @fn_by P w K mg base "_law_at" "_law_at" s__law_at T.a__law_at T.d__law_at nn__law_at ["_law_script", "_law_k"] 33 2 none false b__law_at [false, false] [false, false] T.F__law_at sc__law_at rfl (fun _ => rfl) (os_ok rfl) rfl (.inl rfl) (fun cdv A outer s H E hr X eX tk hp => ?_)
  subst eX
  unfold b__law_at
  exact (vss_cons (vs_if (vt_cmp (o_ltA (hr.units)) (ve_var 1) (ve_callB c_lenA (va_cons (ve_var 0) va_nil) T.z_len bt_len)) (vss_one (vs_ret (ve_ixA (hr.units) (ve_var 0) (ve_var 1)))) vss_nil) (vss_one (vs_ret (ve_bin o_add (ve_bin o_mul ve_int (ve_var 1)) ve_int))))

theorem ok__law_number (T : Txt P K mg) : FnOk P w K mg base (L2.CX P w) 36 T.a__law_number T.d__law_number ["_law_purse_here"] (spec K mg 1 (some 0) false m__law_number) := by
  refine @fn_by P w K mg base "_law_number" "_law_number" s__law_number T.a__law_number T.d__law_number nn__law_number ["_law_purse_here"] 35 1 (some 0) false b__law_number [true, false] [true, false] T.F__law_number sc__law_number rfl (fun _ => rfl) (os_ok rfl) rfl (.inl rfl) (fun cdv A outer s H E hr X eX tk hp => ?_)
  subst eX
  unfold b__law_number
  exact (vss_cons (vs_set 1 (ve_callM (ok__law_take T) tk (hr.mono (by decide)) T.g__law_take T.k__law_take T.b__law_take (vb_here 0 (va_cons ve_int va_nil))) sc__law_number.nd) (vss_cons (vs_if (vt_cmp (o_ltA (hr.units)) (ve_var 1) ve_int) (vss_one (vs_ret (ve_ixA (hr.units) (VE.fz (ve_lstO (va_cons (ve_tup (va_cons ve_int (va_cons ve_int va_nil))) (va_cons (ve_tup (va_cons ve_int (va_cons ve_int va_nil))) (va_cons (ve_tup (va_cons (ve_un o_neg ve_int) (va_cons ve_int va_nil))) va_nil))))) (ve_var 1)))) vss_nil) (vss_cons (vs_if (vt_cmp (o_eq (hr.units)) (ve_var 1) ve_int) (vss_one (vs_ret (ve_tup (va_cons (ve_bin o_sub (ve_callM (ok__law_take T) tk (hr.mono (by decide)) T.g__law_take T.k__law_take T.b__law_take (vb_here 0 (va_cons ve_int va_nil))) ve_int) (va_cons ve_int va_nil))))) vss_nil) (vss_one (vs_ret (ve_call (ok__law_low T) tk (hr.mono (by decide)) T.g__law_low T.k__law_low T.b__law_low (va_cons (ve_bin o_sub (ve_callM (ok__law_take T) tk (hr.mono (by decide)) T.g__law_take T.k__law_take T.b__law_take (vb_here 0 (va_cons (ve_bin o_add (ve_bin o_mul ve_int (ve_bin o_pow ve_int ve_int)) ve_int) va_nil))) (ve_bin o_pow ve_int ve_int)) (va_cons (ve_bin o_add ve_int (ve_callM (ok__law_take T) tk (hr.mono (by decide)) T.g__law_take T.k__law_take T.b__law_take (vb_here 0 (va_cons ve_int va_nil)))) va_nil))))))))

theorem ok__law_sum (T : Txt P K mg) : FnOk P w K mg base (L2.CX P w) 37 T.a__law_sum T.d__law_sum ["_law_purse_here", "_law_count", "_law_many", "_law_most"] (spec K mg 4 (some 0) true m__law_sum) := by
  refine @fn_by P w K mg base "_law_sum" "_law_sum" s__law_sum T.a__law_sum T.d__law_sum nn__law_sum ["_law_purse_here", "_law_count", "_law_many", "_law_most"] 36 4 (some 0) true b__law_sum [true, false, false, false, false, false, false, false] [true, false, false, false, false, false, false, false] T.F__law_sum sc__law_sum rfl (fun _ => rfl) (os_ok rfl) rfl (.inr (nn_seq (nn_seq nn_ret))) (fun cdv A outer s H E hr X eX tk hp => ?_)
  subst eX
  unfold b__law_sum
  exact (vss_cons (vs_setO 4 ve_dnew sc__law_sum.nd) (vss_cons (vs_for hp (vi_range1 (va_cons (ve_callM (ok__law_take T) tk (hr.mono (by decide)) T.g__law_take T.k__law_take T.b__law_take (vb_here 0 (va_cons (ve_bin o_add (ve_var 2) ve_int) va_nil))) va_nil) T.z_range) (vg_name 5 sc__law_sum.nd) (vss_cons (vs_set 6 (ve_callM (ok__law_word T) tk (hr.mono (by decide)) T.g__law_word T.k__law_word T.b__law_word (vb_here 0 (va_cons (ve_var 1) (va_cons (ve_var 3) va_nil)))) sc__law_sum.nd) (vss_cons (vs_set 7 (ve_callM (ok__law_number T) tk (hr.mono (by decide)) T.g__law_number T.k__law_number T.b__law_number (vb_here 0 va_nil)) sc__law_sum.nd) (vss_one (vs_if (vt_cmp (o_ne (hr.units)) (ve_ixA (hr.units) (ve_var 7) ve_int) ve_int) (vss_one (vs_setA (hr.units) 4 (ve_var 7) (ve_var 6))) vss_nil))))) (vss_one (vs_retV 4))))

theorem ok__law_plus (T : Txt P K mg) : FnOk P w K mg base (L2.CX P w) 35 T.a__law_plus T.d__law_plus ["_law_one", "_law_other"] (spec K mg 2 none false m__law_plus) := by
  refine @fn_by P w K mg base "_law_plus" "_law_plus" s__law_plus T.a__law_plus T.d__law_plus nn__law_plus ["_law_one", "_law_other"] 34 2 none false b__law_plus [false, false] [false, false] T.F__law_plus sc__law_plus rfl (fun _ => rfl) (os_ok rfl) rfl (.inl rfl) (fun cdv A outer s H E hr X eX tk hp => ?_)
  subst eX
  unfold b__law_plus
  exact (vss_one (vs_ret (ve_call (ok__law_low T) tk (hr.mono (by decide)) T.g__law_low T.k__law_low T.b__law_low (va_cons (ve_bin o_add (ve_bin o_mul (ve_ixA (hr.units) (ve_var 0) ve_int) (ve_ixA (hr.units) (ve_var 1) ve_int)) (ve_bin o_mul (ve_ixA (hr.units) (ve_var 1) ve_int) (ve_ixA (hr.units) (ve_var 0) ve_int))) (va_cons (ve_bin o_mul (ve_ixA (hr.units) (ve_var 0) ve_int) (ve_ixA (hr.units) (ve_var 1) ve_int)) va_nil)))))

theorem ok__law_put (T : Txt P K mg) : FnOk P w K mg base (L2.CX P w) 36 T.a__law_put T.d__law_put ["_law_found", "_law_word_here", "_law_number_here"] (spec K mg 3 (some 0) false m__law_put) := by
  refine @fn_by P w K mg base "_law_put" "_law_put" s__law_put T.a__law_put T.d__law_put nn__law_put ["_law_found", "_law_word_here", "_law_number_here"] 35 3 (some 0) false b__law_put [true, false, false] [true, false, false] T.F__law_put sc__law_put rfl (fun _ => rfl) (os_ok rfl) rfl (.inl rfl) (fun cdv A outer s H E hr X eX tk hp => ?_)
  subst eX
  unfold b__law_put
  exact (vss_cons (vs_setA (hr.units) 0 (ve_call (ok__law_plus T) tk (hr.mono (by decide)) T.g__law_plus T.k__law_plus T.b__law_plus (va_cons (ve_dgetO (hr.units) 0 (ve_var 1) (ve_tup (va_cons ve_int (va_cons ve_int va_nil)))) (va_cons (ve_var 2) va_nil))) (ve_var 1)) (vss_one (vs_if (vt_peek (vt_cmp (o_eq (hr.units)) (ve_ixA (hr.units) (ve_ixA (hr.units) (ve_var 0) (ve_var 1)) ve_int) ve_int)) (vss_one (vs_expr (ve_dpop (hr.units) 0 (ve_var 1)))) vss_nil)))

theorem ok__law_by (T : Txt P K mg) : FnOk P w K mg base (L2.CX P w) 35 T.a__law_by T.d__law_by ["_law_one", "_law_other"] (spec K mg 2 none false m__law_by) := by
  refine @fn_by P w K mg base "_law_by" "_law_by" s__law_by T.a__law_by T.d__law_by nn__law_by ["_law_one", "_law_other"] 34 2 none false b__law_by [false, false] [false, false] T.F__law_by sc__law_by rfl (fun _ => rfl) (os_ok rfl) rfl (.inl rfl) (fun cdv A outer s H E hr X eX tk hp => ?_)
  subst eX
  unfold b__law_by
  exact (vss_one (vs_ret (ve_call (ok__law_low T) tk (hr.mono (by decide)) T.g__law_low T.k__law_low T.b__law_low (va_cons (ve_bin o_mul (ve_ixA (hr.units) (ve_var 0) ve_int) (ve_ixA (hr.units) (ve_var 1) ve_int)) (va_cons (ve_bin o_mul (ve_ixA (hr.units) (ve_var 0) ve_int) (ve_ixA (hr.units) (ve_var 1) ve_int)) va_nil)))))

theorem ok__law_joined (T : Txt P K mg) : FnOk P w K mg base (L2.CX P w) 37 T.a__law_joined T.d__law_joined ["_law_one", "_law_other"] (spec K mg 2 none true m__law_joined) := by
  refine @fn_by P w K mg base "_law_joined" "_law_joined" s__law_joined T.a__law_joined T.d__law_joined nn__law_joined ["_law_one", "_law_other"] 36 2 none true b__law_joined [false, false, false, false, false] [false, false, false, false, false] T.F__law_joined sc__law_joined rfl (fun _ => rfl) (os_ok rfl) rfl (.inr (nn_seq (nn_seq nn_ret))) (fun cdv A outer s H E hr X eX tk hp => ?_)
  subst eX
  unfold b__law_joined
  exact (vss_cons (vs_setO 2 ve_dnew sc__law_joined.nd) (vss_cons (vs_for hp (vi_seqA (ve_var 0)) (vg_name 3 sc__law_joined.nd) (vss_one (vs_for hp (vi_seqA (ve_var 1)) (vg_name 4 sc__law_joined.nd) (vss_one (vs_expr (ve_callM (ok__law_put T) tk (hr.mono (by decide)) T.g__law_put T.k__law_put T.b__law_put (vb_here 2 (va_cons (ve_bin o_add (ve_var 3) (ve_var 4)) (va_cons (ve_call (ok__law_by T) tk (hr.mono (by decide)) T.g__law_by T.k__law_by T.b__law_by (va_cons (ve_ixA (hr.units) (ve_var 0) (ve_var 3)) (va_cons (ve_ixA (hr.units) (ve_var 1) (ve_var 4)) va_nil))) va_nil))))))))) (vss_one (vs_retV 2))))

theorem ok__law_not (T : Txt P K mg) : FnOk P w K mg base (L2.CX P w) 34 T.a__law_not T.d__law_not ["_law_one"] (spec K mg 1 none false m__law_not) := by
  refine @fn_by P w K mg base "_law_not" "_law_not" s__law_not T.a__law_not T.d__law_not nn__law_not ["_law_one"] 33 1 none false b__law_not [false] [false] T.F__law_not sc__law_not rfl (fun _ => rfl) (os_ok rfl) rfl (.inl rfl) (fun cdv A outer s H E hr X eX tk hp => ?_)
  subst eX
  unfold b__law_not
  exact (vss_one (vs_ret (ve_tup (va_cons (ve_bin o_sub ve_int (ve_ixA (hr.units) (ve_var 0) ve_int)) (va_cons (ve_ixA (hr.units) (ve_var 0) ve_int) va_nil)))))

theorem ok__law_less (T : Txt P K mg) : FnOk P w K mg base (L2.CX P w) 37 T.a__law_less T.d__law_less ["_law_one", "_law_other"] (spec K mg 2 none true m__law_less) := by
  refine @fn_by P w K mg base "_law_less" "_law_less" s__law_less T.a__law_less T.d__law_less nn__law_less ["_law_one", "_law_other"] 36 2 none true b__law_less [false, false, false, false] [false, false, false, false] T.F__law_less sc__law_less rfl (fun _ => rfl) (os_ok rfl) rfl (.inr (nn_seq (nn_seq nn_ret))) (fun cdv A outer s H E hr X eX tk hp => ?_)
  subst eX
  unfold b__law_less
  exact (vss_cons (vs_setO 2 (ve_dictA (ve_dictD (hr.units) (ve_var 0) T.z_dict) (ve_dictL (hr.units) (ve_var 0) T.z_dict)) sc__law_less.nd) (vss_cons (vs_for hp (vi_seqA (ve_var 1)) (vg_name 3 sc__law_less.nd) (vss_one (vs_expr (ve_callM (ok__law_put T) tk (hr.mono (by decide)) T.g__law_put T.k__law_put T.b__law_put (vb_here 2 (va_cons (ve_var 3) (va_cons (ve_call (ok__law_not T) tk (hr.mono (by decide)) T.g__law_not T.k__law_not T.b__law_not (va_cons (ve_ixA (hr.units) (ve_var 1) (ve_var 3)) va_nil)) va_nil))))))) (vss_one (vs_retV 2))))

theorem okr__law_said (T : Txt P K mg) : ∀ n, FnOk P w K mg base (L2.CX P w) (38 + n) T.a__law_said T.d__law_said ["_law_tree_here"] (spec K mg 1 none true (mr__law_said n))
  | 0 => by
    refine @fn_by P w K mg base "_law_said" "_law_said" s__law_said T.a__law_said T.d__law_said nn__law_said ["_law_tree_here"] 37 1 none true sStuck [false, false, false] [false, false, false] T.F__law_said sc__law_said rfl (fun _ => rfl) (os_ok rfl) rfl (.inr nn_stuck) (fun cdv A outer s H E hr X eX tk hp => ?_)
    subst eX
    exact vss_stuck
  | n + 1 => by
    refine @fn_by P w K mg base "_law_said" "_law_said" s__law_said T.a__law_said T.d__law_said nn__law_said ["_law_tree_here"] (38 + n) 1 none true (b__law_said (mr__law_said n)) [false, false, false] [false, false, false] T.F__law_said sc__law_said rfl (fun _ => rfl) (os_ok rfl) rfl (.inr (nn_seq (nn_seq (nn_seq nn_ret)))) (fun cdv A outer s H E hr X eX tk hp => ?_)
    subst eX
    unfold b__law_said
    exact (vss_cons (vs_if (vt_not (vt_val (ve_callB c_isi (va_cons (ve_var 0) (va_cons (ve_ty (T := .tuple) T.z_tuple bt_tuple) va_nil)) T.z_isinstance bt_isinstance))) (vss_one (vs_retO (ve_disp (hr.units) (vp_cons (ve_tup (va_cons (ve_var 0) va_nil)) (ve_tup (va_cons ve_int (va_cons ve_int va_nil))) vp_nil)))) vss_nil) (vss_cons (vs_set 1 (VE.fz (ve_call (okr__law_said T n) tk (hr.mono (by omega)) T.g__law_said T.k__law_said T.b__law_said (va_cons (ve_ixA (hr.units) (ve_var 0) ve_int) va_nil))) sc__law_said.nd) (vss_cons (vs_set 2 (VE.fz (ve_call (okr__law_said T n) tk (hr.mono (by omega)) T.g__law_said T.k__law_said T.b__law_said (va_cons (ve_ixA (hr.units) (ve_var 0) ve_int) va_nil))) sc__law_said.nd) (vss_one (vs_retO (ve_call (ok__law_less T) tk (hr.mono (by omega)) T.g__law_less T.k__law_less T.b__law_less (va_cons (VE.fz (ve_call (ok__law_joined T) tk (hr.mono (by omega)) T.g__law_joined T.k__law_joined T.b__law_joined (va_cons (ve_var 1) (va_cons (ve_var 2) va_nil)))) (va_cons (VE.fz (ve_call (ok__law_joined T) tk (hr.mono (by omega)) T.g__law_joined T.k__law_joined T.b__law_joined (va_cons (ve_var 2) (va_cons (ve_var 1) va_nil)))) va_nil))))))))
theorem ok__law_said (T : Txt P K mg) : FnOk P w K mg base (L2.CX P w) 46 T.a__law_said T.d__law_said ["_law_tree_here"] (spec K mg 1 none true m__law_said) := okr__law_said T 8

theorem ok_least_tree (T : Txt P K mg) : FnOk P w K mg base (L2.CX P w) 44 T.a_least_tree T.d_least_tree ["word"] (spec K mg 1 none false m_least_tree) := by
  refine @fn_by P w K mg base "least_tree" "least_tree" s_least_tree T.a_least_tree T.d_least_tree nn_least_tree ["word"] 43 1 none false b_least_tree [false] [false] T.F_least_tree sc_least_tree rfl (fun _ => rfl) (os_ok rfl) rfl (.inl rfl) (fun cdv A outer s H E hr X eX tk hp => ?_)
  subst eX
  unfold b_least_tree
  exact (vss_cons (vs_expr (ve_call (ok_check_word T) tk (hr.mono (by decide)) T.g_check_word T.k_check_word T.b_check_word (va_cons (ve_var 0) va_nil))) (vss_cons (vs_if (vt_not (vt_val (ve_call (ok_is_least T) tk (hr.mono (by decide)) T.g_is_least T.k_is_least T.b_is_least (va_cons (ve_var 0) va_nil)))) (vss_one vs_stuck) vss_nil) (vss_one (vs_ret (ve_call (ok_tree_by T) tk (hr.mono (by decide)) T.g_tree_by T.k_tree_by T.b_tree_by (va_cons (ve_var 0) va_nil))))))

theorem ok__law_row_sum (T : Txt P K mg) : FnOk P w K mg base (L2.CX P w) 47 T.a__law_row_sum T.d__law_row_sum ["_law_words"] (spec K mg 1 none false m__law_row_sum) := by
  refine @fn_by P w K mg base "_law_row_sum" "_law_row_sum" s__law_row_sum T.a__law_row_sum T.d__law_row_sum nn__law_row_sum ["_law_words"] 46 1 none false b__law_row_sum [false, false, false] [false, false, false] T.F__law_row_sum sc__law_row_sum rfl (fun _ => rfl) (os_ok rfl) rfl (.inl rfl) (fun cdv A outer s H E hr X eX tk hp => ?_)
  subst eX
  unfold b__law_row_sum
  exact (vss_cons (vs_set 1 (VE.fz (ve_disp (hr.units) (vp_cons (ve_tup va_nil) (ve_tup (va_cons ve_int (va_cons ve_int va_nil))) vp_nil))) sc__law_row_sum.nd) (vss_cons (vs_for hp (vi_seqA (ve_var 0)) (vg_name 2 sc__law_row_sum.nd) (VSs.to (vss_one (vs_set 1 (VE.fz (ve_call (ok__law_joined T) tk (hr.mono (by decide)) T.g__law_joined T.k__law_joined T.b__law_joined (va_cons (ve_var 1) (va_cons (VE.fz (ve_call (ok__law_said T) tk (hr.mono (by decide)) T.g__law_said T.k__law_said T.b__law_said (va_cons (ve_call (ok_least_tree T) tk (hr.mono (by decide)) T.g_least_tree T.k_least_tree T.b_least_tree (va_cons (ve_var 2) va_nil)) va_nil))) va_nil)))) sc__law_row_sum.nd)))) (vss_one (vs_ret (ve_var 1)))))

theorem ok__law_all (T : Txt P K mg) : FnOk P w K mg base (L2.CX P w) 48 T.a__law_all T.d__law_all ["_law_rows"] (spec K mg 1 none true m__law_all) := by
  refine @fn_by P w K mg base "_law_all" "_law_all" s__law_all T.a__law_all T.d__law_all nn__law_all ["_law_rows"] 47 1 none true b__law_all [false, false, false, false, false, false] [false, false, false, false, false, false] T.F__law_all sc__law_all rfl (fun _ => rfl) (os_ok rfl) rfl (.inr (nn_seq (nn_seq nn_ret))) (fun cdv A outer s H E hr X eX tk hp => ?_)
  subst eX
  unfold b__law_all
  exact (vss_cons (vs_setO 1 ve_dnew sc__law_all.nd) (vss_cons (vs_for hp (vi_seqA (ve_var 0)) (vg_tup (vgs_cons (vg_name 2 sc__law_all.nd) (vgs_cons (vg_name 3 sc__law_all.nd) vgs_nil))) (vss_cons (vs_set 4 (ve_call (ok__law_row_sum T) tk (hr.mono (by decide)) T.g__law_row_sum T.k__law_row_sum T.b__law_row_sum (va_cons (ve_var 2) va_nil)) sc__law_all.nd) (vss_one (vs_for hp (vi_seqA (ve_var 4)) (vg_name 5 sc__law_all.nd) (vss_one (vs_expr (ve_callM (ok__law_put T) tk (hr.mono (by decide)) T.g__law_put T.k__law_put T.b__law_put (vb_here 1 (va_cons (ve_var 5) (va_cons (ve_call (ok__law_by T) tk (hr.mono (by decide)) T.g__law_by T.k__law_by T.b__law_by (va_cons (ve_var 3) (va_cons (ve_ixA (hr.units) (ve_var 4) (ve_var 5)) va_nil))) va_nil)))))))))) (vss_one (vs_retV 1))))

theorem ok__law_whole_word (T : Txt P K mg) : FnOk P w K mg base (L2.CX P w) 34 T.a__law_whole_word T.d__law_whole_word ["_law_words"] (spec K mg 1 none false m__law_whole_word) := by
  refine @fn_by P w K mg base "_law_whole_word" "_law_whole_word" s__law_whole_word T.a__law_whole_word T.d__law_whole_word nn__law_whole_word ["_law_words"] 33 1 none false b__law_whole_word [false, false, false] [false, false, false] T.F__law_whole_word sc__law_whole_word rfl (fun _ => rfl) (os_ok rfl) rfl (.inl rfl) (fun cdv A outer s H E hr X eX tk hp => ?_)
  subst eX
  unfold b__law_whole_word
  exact (vss_cons (vs_set 1 (ve_tup va_nil) sc__law_whole_word.nd) (vss_cons (vs_for hp (vi_seqA (ve_var 0)) (vg_name 2 sc__law_whole_word.nd) (VSs.to (vss_one (vs_set 1 (ve_bin o_add (ve_var 1) (ve_var 2)) sc__law_whole_word.nd)))) (vss_one (vs_ret (ve_var 1)))))

theorem ok__law_is_least (T : Txt P K mg) : FnOk P w K mg base (L2.CX P w) 34 T.a__law_is_least T.d__law_is_least ["_law_word_here"] (spec K mg 1 none false m__law_is_least) := by
  refine @fn_by P w K mg base "_law_is_least" "_law_is_least" s__law_is_least T.a__law_is_least T.d__law_is_least nn__law_is_least ["_law_word_here"] 33 1 none false b__law_is_least [false, false, false, false] [false, false, false, false] T.F__law_is_least sc__law_is_least rfl (fun _ => rfl) (os_ok rfl) rfl (.inl rfl) (fun cdv A outer s H E hr X eX tk hp => ?_)
  subst eX
  unfold b__law_is_least
  exact (vss_cons (VS.fz 1 (vs_setLc 1 (own := [("_law_at_here", 2)]) (blkOk_by (N := nn__law_is_least) (sc := defScope s__law_is_least) (by decide +kernel)) (vi_range2 (va_cons ve_int (va_cons (ve_callB c_lenA (va_cons (ve_var 0) va_nil) T.z_len bt_len) va_nil)) T.z_range) (fun _ _ _ _ _ => (vg_name 2 sc__law_is_least.nd)) (fun _ _ _ _ _ => vts_nil) (fun _ _ _ _ _ => (ve_bin o_add (ve_slice (ve_var 0) (vo_some (ve_var 2)) vo_none) (ve_slice (ve_var 0) vo_none (vo_some (ve_var 2))))) sc__law_is_least.nd (by rfl))) (vss_one (vs_ret (ve_and (ve_cmp (o_ne (hr.units)) (ve_var 0) (ve_tup va_nil)) (ve_one (ve_cmp (o_eq (hr.units)) (VE.fz (ve_lc (own := [("_law_other", 3)]) (blkOk_by (N := nn__law_is_least) (sc := defScope s__law_is_least) (by decide +kernel)) (vi_seqA (ve_var 1)) (fun _ _ _ _ _ => (vg_name 3 sc__law_is_least.nd)) (fun _ _ _ _ _ => (vts_one (vt_cmp (o_leA (hr.units)) (ve_var 3) (ve_var 0)))) (fun _ _ _ _ _ => (ve_var 3)) sc__law_is_least.nd)) (VE.fz (ve_lstO va_nil))))))))

theorem ok__law_is_row (T : Txt P K mg) : FnOk P w K mg base (L2.CX P w) 35 T.a__law_is_row T.d__law_is_row ["_law_words"] (spec K mg 1 none false m__law_is_row) := by
  refine @fn_by P w K mg base "_law_is_row" "_law_is_row" s__law_is_row T.a__law_is_row T.d__law_is_row nn__law_is_row ["_law_words"] 34 1 none false b__law_is_row [false, false, false] [false, false, false] T.F__law_is_row sc__law_is_row rfl (fun _ => rfl) (os_ok rfl) rfl (.inl rfl) (fun cdv A outer s H E hr X eX tk hp => ?_)
  subst eX
  unfold b__law_is_row
  exact (vss_cons (vs_if (VW.vt (vw_or (vt_not (vt_val (ve_callB c_isi (va_cons (ve_var 0) (va_cons (ve_ty (T := .tuple) T.z_tuple bt_tuple) va_nil)) T.z_isinstance bt_isinstance))) (vw_or1 (vt_cmp (o_ne (hr.units)) (VE.fz (ve_lc (own := [("_law_word_here", 2)]) (blkOk_by (N := nn__law_is_row) (sc := defScope s__law_is_row) (by decide +kernel)) (vi_seqA (ve_var 0)) (fun _ _ _ _ _ => (vg_name 2 sc__law_is_row.nd)) (fun _ _ _ _ _ => (vts_one (vt_not (vt_val (ve_call (ok__law_is_least T) takes0 (hr.mono (by decide)) T.g__law_is_least T.k__law_is_least T.b__law_is_least (va_cons (ve_var 2) va_nil)))))) (fun _ _ _ _ _ => (ve_var 2)) sc__law_is_row.nd)) (VE.fz (ve_lstO va_nil)))))) (vss_one (vs_ret ve_bl)) vss_nil) (vss_one (vs_ret (ve_cmp (o_eq (hr.units)) (VE.fz (ve_lc (own := [("_law_k", 1)]) (blkOk_by (N := nn__law_is_row) (sc := defScope s__law_is_row) (by decide +kernel)) (vi_range2 (va_cons ve_int (va_cons (ve_callB c_lenA (va_cons (ve_var 0) va_nil) T.z_len bt_len) va_nil)) T.z_range) (fun _ _ _ _ _ => (vg_name 1 sc__law_is_row.nd)) (fun _ _ _ _ _ => (vts_one (vt_cmp (o_gtA (hr.units)) (ve_ixA (hr.units) (ve_var 0) (ve_var 1)) (ve_ixA (hr.units) (ve_var 0) (ve_bin o_sub (ve_var 1) ve_int))))) (fun _ _ _ _ _ => (ve_var 1)) sc__law_is_row.nd)) (VE.fz (ve_lstO va_nil))))))

theorem ok__law_form_right (T : Txt P K mg) : FnOk P w K mg base (L2.CX P w) 36 T.a__law_form_right T.d__law_form_right ["_law_told_here"] (spec K mg 1 none false m__law_form_right) := by
  refine @fn_by P w K mg base "_law_form_right" "_law_form_right" s__law_form_right T.a__law_form_right T.d__law_form_right nn__law_form_right ["_law_told_here"] 35 1 none false b__law_form_right [false, false, false, false, false, false] [false, false, false, false, false, false] T.F__law_form_right sc__law_form_right rfl (fun _ => rfl) (os_ok rfl) rfl (.inl rfl) (fun cdv A outer s H E hr X eX tk hp => ?_)
  subst eX
  unfold b__law_form_right
  exact (vss_cons (vs_if (vt_not (vt_val (ve_callB c_isi (va_cons (ve_var 0) (va_cons (ve_ty (T := .list) T.z_list bt_list) va_nil)) T.z_isinstance bt_isinstance))) (vss_one (vs_ret ve_bl)) vss_nil) (vss_cons (vs_for hp (vi_seqA (ve_var 0)) (vg_name 1 sc__law_form_right.nd) (vss_cons (vs_if (VW.vt (vw_or (vt_not (vt_val (ve_callB c_isi (va_cons (ve_var 1) (va_cons (ve_ty (T := .tuple) T.z_tuple bt_tuple) va_nil)) T.z_isinstance bt_isinstance))) (vw_or (vt_cmp (o_ne (hr.units)) (ve_callB c_lenA (va_cons (ve_var 1) va_nil) T.z_len bt_len) ve_int) (vw_or1 (vt_not (vt_val (ve_call (ok__law_is_row T) tk (hr.mono (by decide)) T.g__law_is_row T.k__law_is_row T.b__law_is_row (va_cons (ve_ixA (hr.units) (ve_var 1) ve_int) va_nil)))))))) (vss_one (vs_ret ve_bl)) vss_nil) (vss_one (vs_if (VW.vt (vw_or (vt_not (vt_val (ve_callB c_isi (va_cons (ve_ixA (hr.units) (ve_var 1) ve_int) (va_cons (ve_ty (T := .tuple) T.z_tuple bt_tuple) va_nil)) T.z_isinstance bt_isinstance))) (vw_or (vt_cmp (o_eq (hr.units)) (ve_ixA (hr.units) (ve_ixA (hr.units) (ve_var 1) ve_int) ve_int) ve_int) (vw_or (vt_cmp (o_ltA (hr.units)) (ve_ixA (hr.units) (ve_ixA (hr.units) (ve_var 1) ve_int) ve_int) ve_int) (vw_or1 (vt_cmp (o_ne (hr.units)) (ve_call (ok__law_low T) tk (hr.mono (by decide)) T.g__law_low T.k__law_low T.b__law_low (va_cons (ve_ixA (hr.units) (ve_ixA (hr.units) (ve_var 1) ve_int) ve_int) (va_cons (ve_ixA (hr.units) (ve_ixA (hr.units) (ve_var 1) ve_int) ve_int) va_nil))) (ve_ixA (hr.units) (ve_var 1) ve_int))))))) (vss_one (vs_ret ve_bl)) vss_nil)))) (vss_cons (vs_set 2 (VE.fz (ve_lc (own := [("_law_words", 3), ("_law_number_here", 4)]) (blkOk_by (N := nn__law_form_right) (sc := defScope s__law_form_right) (by decide +kernel)) (vi_seqA (ve_var 0)) (fun _ _ _ _ _ => (vg_tup (vgs_cons (vg_name 3 sc__law_form_right.nd) (vgs_cons (vg_name 4 sc__law_form_right.nd) vgs_nil)))) (fun _ _ _ _ _ => vts_nil) (fun _ _ _ _ _ => (ve_call (ok__law_rank T) takes0 (hr.mono (by decide)) T.g__law_rank T.k__law_rank T.b__law_rank (va_cons (ve_call (ok__law_whole_word T) takes0 (hr.mono (by decide)) T.g__law_whole_word T.k__law_whole_word T.b__law_whole_word (va_cons (ve_var 3) va_nil)) va_nil))) sc__law_form_right.nd)) sc__law_form_right.nd) (vss_one (vs_ret (ve_cmp (o_eq (hr.units)) (VE.fz (ve_lc (own := [("_law_k", 5)]) (blkOk_by (N := nn__law_form_right) (sc := defScope s__law_form_right) (by decide +kernel)) (vi_range2 (va_cons ve_int (va_cons (ve_callB c_lenA (va_cons (ve_var 2) va_nil) T.z_len bt_len) va_nil)) T.z_range) (fun _ _ _ _ _ => (vg_name 5 sc__law_form_right.nd)) (fun _ _ _ _ _ => (vts_one (vt_cmp (o_leA (hr.units)) (ve_ixA (hr.units) (ve_var 2) (ve_var 5)) (ve_ixA (hr.units) (ve_var 2) (ve_bin o_sub (ve_var 5) ve_int))))) (fun _ _ _ _ _ => (ve_var 5)) sc__law_form_right.nd)) (VE.fz (ve_lstO va_nil))))))))

theorem ok__law_whole_rank (T : Txt P K mg) : FnOk P w K mg base (L2.CX P w) 35 T.a__law_whole_rank T.d__law_whole_rank ["_law_row"] (spec K mg 1 none false m__law_whole_rank) := by
  refine @fn_by P w K mg base "_law_whole_rank" "_law_whole_rank" s__law_whole_rank T.a__law_whole_rank T.d__law_whole_rank nn__law_whole_rank ["_law_row"] 34 1 none false b__law_whole_rank [false] [false] T.F__law_whole_rank sc__law_whole_rank rfl (fun _ => rfl) (os_ok rfl) rfl (.inl rfl) (fun cdv A outer s H E hr X eX tk hp => ?_)
  subst eX
  unfold b__law_whole_rank
  exact (vss_one (vs_ret (ve_call (ok__law_rank T) tk (hr.mono (by decide)) T.g__law_rank T.k__law_rank T.b__law_rank (va_cons (ve_call (ok__law_whole_word T) tk (hr.mono (by decide)) T.g__law_whole_word T.k__law_whole_word T.b__law_whole_word (va_cons (ve_ixA (hr.units) (ve_var 0) ve_int) va_nil)) va_nil))))

theorem ok_law (T : Txt P K mg) : FnOk P w K mg base (L2.CX P w) 50 T.a_law T.d_law ["_law_script"] (spec K mg 1 none false m_law) := by
  refine @fn_by P w K mg base "law" "law" s_law T.a_law T.d_law nn_law ["_law_script"] 49 1 none false b_law [false, false, false, false, false, false, false, false, false, false] [false, false, false, false, false, false, false, false, false, false] T.F_law sc_law rfl (fun _ => rfl) (os_ok rfl) rfl (.inl rfl) (fun cdv A outer s H E hr X eX tk hp => ?_)
  subst eX
  unfold b_law
  exact (vss_cons (vs_for hp (vi_seqA (ve_bin o_add (ve_slice (ve_var 0) vo_none (vo_some ve_int)) (VE.fz (ve_lstO (va_cons (ve_call (ok__law_at T) tk (hr.mono (by decide)) T.g__law_at T.k__law_at T.b__law_at (va_cons (ve_var 0) (va_cons ve_int va_nil))) va_nil))))) (vg_name 1 sc_law.nd) (VSs.fz (osN := [false, false, false, false, false, false, false, false, true, false]) 8 (VSs.fz (osN := [false, false, true, false, false, false, false, false, true, false]) 2 (vss_cons (vs_setO 2 (ve_call (ok__law_purse T) tk (hr.mono (by decide)) T.g__law_purse T.k__law_purse T.b__law_purse (va_cons (ve_var 1) (va_cons ve_int va_nil))) sc_law.nd) (vss_cons (vs_set 3 (ve_bin o_add ve_int (ve_callM (ok__law_take T) tk (hr.mono (by decide)) T.g__law_take T.k__law_take T.b__law_take (vb_here 2 (va_cons ve_int va_nil)))) sc_law.nd) (vss_cons (vs_set 4 (VE.fz (ve_callM (ok__law_rows_drawn T) tk (hr.mono (by decide)) T.g__law_rows_drawn T.k__law_rows_drawn T.b__law_rows_drawn (vb_here 2 (va_cons (ve_var 3) va_nil)))) sc_law.nd) (vss_cons (vs_set 5 (ve_callM (ok__law_take T) tk (hr.mono (by decide)) T.g__law_take T.k__law_take T.b__law_take (vb_here 2 (va_cons ve_int va_nil))) sc_law.nd) (vss_cons (vs_set 6 (ve_ixA (hr.units) (VE.fz (ve_lstO (va_cons (VE.fz (ve_callM (ok__law_sum T) tk (hr.mono (by decide)) T.g__law_sum T.k__law_sum T.b__law_sum (vb_here 2 (va_cons (ve_var 3) (va_cons ve_int (va_cons ve_int va_nil)))))) (va_cons (VE.fz (ve_call (ok__law_all T) tk (hr.mono (by decide)) T.g__law_all T.k__law_all T.b__law_all (va_cons (ve_var 4) va_nil))) va_nil)))) (ve_var 5)) sc_law.nd) (vss_cons (vs_set 7 (VE.fz (ve_call (ok__law_told T) tk (hr.mono (by decide)) T.g__law_told T.k__law_told T.b__law_told (va_cons (ve_var 6) va_nil))) sc_law.nd) (vss_cons (vs_setO 8 (ve_call (ok_told_by_least T) tk (hr.mono (by decide)) T.g_told_by_least T.k_told_by_least T.b_told_by_least (va_cons (ve_var 3) (va_cons (ve_var 7) va_nil))) sc_law.nd) (vss_cons (vs_if (vt_peek (VW.vt (vw_or (vt_not (vt_val (ve_call (ok__law_form_right T) tk (hr.mono (by decide)) T.g__law_form_right T.k__law_form_right T.b__law_form_right (va_cons (ve_var 8) va_nil)))) (vw_or (vt_cmp (o_neX (hu68 hr)) (VE.fz (ve_call (ok__law_all T) tk (hr.mono (by decide)) T.g__law_all T.k__law_all T.b__law_all (va_cons (ve_var 8) va_nil))) (ve_var 6)) (vw_or1 (vt_cmp (o_ne (hr.units)) (ve_var 7) (VE.fz (ve_call (ok__law_told T) tk (hr.mono (by decide)) T.g__law_told T.k__law_told T.b__law_told (va_cons (ve_var 6) va_nil))))))))) (vss_one (vs_ret ve_bl)) vss_nil) (vss_cons (vs_if (vt_peek (VW.vt (vw_and (vt_cmp (o_eq (hr.units)) (ve_var 5) ve_int) (vw_and1 (vt_cmp (o_ne (hr.units)) (ve_var 8) (VE.fz (ve_sortK (ok__law_whole_rank T) (hr.mono (by decide)) T.g__law_whole_rank T.b__law_whole_rank (ve_var 4) T.z_sorted))))))) (vss_one (vs_ret ve_bl)) vss_nil) (vss_cons (vs_set 9 (VE.fz (ve_listO 8 rfl T.z_list)) sc_law.nd) (vss_cons (vs_expr (ve_ownM0 8 own_clear PySem.F.plainAttrs_list PySem.F.slot_list_clear PySem.F.type_list_clear)) (vss_one (vs_if (VW.vt (vw_or (vt_cmp (o_ne (hr.units)) (VE.fz (ve_call (ok_told_by_least T) tk (hr.mono (by decide)) T.g_told_by_least T.k_told_by_least T.b_told_by_least (va_cons (ve_var 3) (va_cons (ve_var 7) va_nil)))) (ve_var 9)) (vw_or1 (vt_cmp (o_ne (hr.units)) (ve_var 7) (VE.fz (ve_call (ok__law_told T) tk (hr.mono (by decide)) T.g__law_told T.k__law_told T.b__law_told (va_cons (ve_var 6) va_nil))))))) (vss_one (vs_ret ve_bl)) vss_nil)))))))))))))))) (vss_one (vs_ret ve_bl)))

end

theorem all_mk {l : PySem.W.OpenLaw} {w : World} {K : PySem.W.Frag} {h : Heap} {mg : Str → Option Value} {fa : Addr} (X : K.In h) (G : h.Ns mainGlobals mg) (hfa : mg "law" = some (.ref fa)) (tree : l.prog.given.tree = none)
    {f__law_mixed : Addr} {oc__law_mixed kV__law_mixed dc__law_mixed pm__law_mixed cd__law_mixed ct__law_mixed : Value} {od__law_mixed an__law_mixed : Option Addr} {sl__law_mixed : Array (Option Value)}
    {f__law_purse : Addr} {oc__law_purse kV__law_purse dc__law_purse pm__law_purse cd__law_purse ct__law_purse : Value} {od__law_purse an__law_purse : Option Addr} {sl__law_purse : Array (Option Value)}
    {f__law_take : Addr} {oc__law_take kV__law_take dc__law_take pm__law_take cd__law_take ct__law_take : Value} {od__law_take an__law_take : Option Addr} {sl__law_take : Array (Option Value)}
    {f__law_low : Addr} {oc__law_low kV__law_low dc__law_low pm__law_low cd__law_low ct__law_low : Value} {od__law_low an__law_low : Option Addr} {sl__law_low : Array (Option Value)}
    {f__law_few : Addr} {oc__law_few kV__law_few dc__law_few pm__law_few cd__law_few ct__law_few : Value} {od__law_few an__law_few : Option Addr} {sl__law_few : Array (Option Value)}
    {f_is_whole : Addr} {oc_is_whole kV_is_whole dc_is_whole pm_is_whole cd_is_whole ct_is_whole : Value} {od_is_whole an_is_whole : Option Addr} {sl_is_whole : Array (Option Value)}
    {f_is_word : Addr} {oc_is_word kV_is_word dc_is_word pm_is_word cd_is_word ct_is_word : Value} {od_is_word an_is_word : Option Addr} {sl_is_word : Array (Option Value)}
    {f_check_word : Addr} {oc_check_word kV_check_word dc_check_word pm_check_word cd_check_word ct_check_word : Value} {od_check_word an_check_word : Option Addr} {sl_check_word : Array (Option Value)}
    {f_is_least : Addr} {oc_is_least kV_is_least dc_is_least pm_is_least cd_is_least ct_is_least : Value} {od_is_least an_is_least : Option Addr} {sl_is_least : Array (Option Value)}
    {f_falling : Addr} {oc_falling kV_falling dc_falling pm_falling cd_falling ct_falling : Value} {od_falling an_falling : Option Addr} {sl_falling : Array (Option Value)}
    {f_fallen : Addr} {oc_fallen kV_fallen dc_fallen pm_fallen cd_fallen ct_fallen : Value} {od_fallen an_fallen : Option Addr} {sl_fallen : Array (Option Value)}
    {f__law_word : Addr} {oc__law_word kV__law_word dc__law_word pm__law_word cd__law_word ct__law_word : Value} {od__law_word an__law_word : Option Addr} {sl__law_word : Array (Option Value)}
    {f__law_rows_drawn : Addr} {oc__law_rows_drawn kV__law_rows_drawn dc__law_rows_drawn pm__law_rows_drawn cd__law_rows_drawn ct__law_rows_drawn : Value} {od__law_rows_drawn an__law_rows_drawn : Option Addr} {sl__law_rows_drawn : Array (Option Value)}
    {f__law_rank : Addr} {oc__law_rank kV__law_rank dc__law_rank pm__law_rank cd__law_rank ct__law_rank : Value} {od__law_rank an__law_rank : Option Addr} {sl__law_rank : Array (Option Value)}
    {f__law_told : Addr} {oc__law_told kV__law_told dc__law_told pm__law_told cd__law_told ct__law_told : Value} {od__law_told an__law_told : Option Addr} {sl__law_told : Array (Option Value)}
    {f_check_count : Addr} {oc_check_count kV_check_count dc_check_count pm_check_count cd_check_count ct_check_count : Value} {od_check_count an_check_count : Option Addr} {sl_check_count : Array (Option Value)}
    {f_divisor : Addr} {oc_divisor kV_divisor dc_divisor pm_divisor cd_divisor ct_divisor : Value} {od_divisor an_divisor : Option Addr} {sl_divisor : Array (Option Value)}
    {f_is_number : Addr} {oc_is_number kV_is_number dc_is_number pm_is_number cd_is_number ct_is_number : Value} {od_is_number an_is_number : Option Addr} {sl_is_number : Array (Option Value)}
    {f_is_term : Addr} {oc_is_term kV_is_term dc_is_term pm_is_term cd_is_term ct_is_term : Value} {od_is_term an_is_term : Option Addr} {sl_is_term : Array (Option Value)}
    {f_rank : Addr} {oc_rank kV_rank dc_rank pm_rank cd_rank ct_rank : Value} {od_rank an_rank : Option Addr} {sl_rank : Array (Option Value)}
    {f_check_sum : Addr} {oc_check_sum kV_check_sum dc_check_sum pm_check_sum cd_check_sum ct_check_sum : Value} {od_check_sum an_check_sum : Option Addr} {sl_check_sum : Array (Option Value)}
    {f_gathered : Addr} {oc_gathered kV_gathered dc_gathered pm_gathered cd_gathered ct_gathered : Value} {od_gathered an_gathered : Option Addr} {sl_gathered : Array (Option Value)}
    {f_lowest : Addr} {oc_lowest kV_lowest dc_lowest pm_lowest cd_lowest ct_lowest : Value} {od_lowest an_lowest : Option Addr} {sl_lowest : Array (Option Value)}
    {f_plus : Addr} {oc_plus kV_plus dc_plus pm_plus cd_plus ct_plus : Value} {od_plus an_plus : Option Addr} {sl_plus : Array (Option Value)}
    {f_put_to : Addr} {oc_put_to kV_put_to dc_put_to pm_put_to cd_put_to ct_put_to : Value} {od_put_to an_put_to : Option Addr} {sl_put_to : Array (Option Value)}
    {f_times : Addr} {oc_times kV_times dc_times pm_times cd_times ct_times : Value} {od_times an_times : Option Addr} {sl_times : Array (Option Value)}
    {f_joined_to : Addr} {oc_joined_to kV_joined_to dc_joined_to pm_joined_to cd_joined_to ct_joined_to : Value} {od_joined_to an_joined_to : Option Addr} {sl_joined_to : Array (Option Value)}
    {f_told_sum : Addr} {oc_told_sum kV_told_sum dc_told_sum pm_told_sum cd_told_sum ct_told_sum : Value} {od_told_sum an_told_sum : Option Addr} {sl_told_sum : Array (Option Value)}
    {f_contrary : Addr} {oc_contrary kV_contrary dc_contrary pm_contrary cd_contrary ct_contrary : Value} {od_contrary an_contrary : Option Addr} {sl_contrary : Array (Option Value)}
    {f_said_by : Addr} {oc_said_by kV_said_by dc_said_by pm_said_by cd_said_by ct_said_by : Value} {od_said_by an_said_by : Option Addr} {sl_said_by : Array (Option Value)}
    {f_tree_by : Addr} {oc_tree_by kV_tree_by dc_tree_by pm_tree_by cd_tree_by ct_tree_by : Value} {od_tree_by an_tree_by : Option Addr} {sl_tree_by : Array (Option Value)}
    {f_joined_trees : Addr} {oc_joined_trees kV_joined_trees dc_joined_trees pm_joined_trees cd_joined_trees ct_joined_trees : Value} {od_joined_trees an_joined_trees : Option Addr} {sl_joined_trees : Array (Option Value)}
    {f_told_by_least : Addr} {oc_told_by_least kV_told_by_least dc_told_by_least pm_told_by_least cd_told_by_least ct_told_by_least : Value} {od_told_by_least an_told_by_least : Option Addr} {sl_told_by_least : Array (Option Value)}
    {f__law_at : Addr} {oc__law_at kV__law_at dc__law_at pm__law_at cd__law_at ct__law_at : Value} {od__law_at an__law_at : Option Addr} {sl__law_at : Array (Option Value)}
    {f__law_number : Addr} {oc__law_number kV__law_number dc__law_number pm__law_number cd__law_number ct__law_number : Value} {od__law_number an__law_number : Option Addr} {sl__law_number : Array (Option Value)}
    {f__law_sum : Addr} {oc__law_sum kV__law_sum dc__law_sum pm__law_sum cd__law_sum ct__law_sum : Value} {od__law_sum an__law_sum : Option Addr} {sl__law_sum : Array (Option Value)}
    {f__law_plus : Addr} {oc__law_plus kV__law_plus dc__law_plus pm__law_plus cd__law_plus ct__law_plus : Value} {od__law_plus an__law_plus : Option Addr} {sl__law_plus : Array (Option Value)}
    {f__law_put : Addr} {oc__law_put kV__law_put dc__law_put pm__law_put cd__law_put ct__law_put : Value} {od__law_put an__law_put : Option Addr} {sl__law_put : Array (Option Value)}
    {f__law_by : Addr} {oc__law_by kV__law_by dc__law_by pm__law_by cd__law_by ct__law_by : Value} {od__law_by an__law_by : Option Addr} {sl__law_by : Array (Option Value)}
    {f__law_joined : Addr} {oc__law_joined kV__law_joined dc__law_joined pm__law_joined cd__law_joined ct__law_joined : Value} {od__law_joined an__law_joined : Option Addr} {sl__law_joined : Array (Option Value)}
    {f__law_not : Addr} {oc__law_not kV__law_not dc__law_not pm__law_not cd__law_not ct__law_not : Value} {od__law_not an__law_not : Option Addr} {sl__law_not : Array (Option Value)}
    {f__law_less : Addr} {oc__law_less kV__law_less dc__law_less pm__law_less cd__law_less ct__law_less : Value} {od__law_less an__law_less : Option Addr} {sl__law_less : Array (Option Value)}
    {f__law_said : Addr} {oc__law_said kV__law_said dc__law_said pm__law_said cd__law_said ct__law_said : Value} {od__law_said an__law_said : Option Addr} {sl__law_said : Array (Option Value)}
    {f_least_tree : Addr} {oc_least_tree kV_least_tree dc_least_tree pm_least_tree cd_least_tree ct_least_tree : Value} {od_least_tree an_least_tree : Option Addr} {sl_least_tree : Array (Option Value)}
    {f__law_row_sum : Addr} {oc__law_row_sum kV__law_row_sum dc__law_row_sum pm__law_row_sum cd__law_row_sum ct__law_row_sum : Value} {od__law_row_sum an__law_row_sum : Option Addr} {sl__law_row_sum : Array (Option Value)}
    {f__law_all : Addr} {oc__law_all kV__law_all dc__law_all pm__law_all cd__law_all ct__law_all : Value} {od__law_all an__law_all : Option Addr} {sl__law_all : Array (Option Value)}
    {f__law_whole_word : Addr} {oc__law_whole_word kV__law_whole_word dc__law_whole_word pm__law_whole_word cd__law_whole_word ct__law_whole_word : Value} {od__law_whole_word an__law_whole_word : Option Addr} {sl__law_whole_word : Array (Option Value)}
    {f__law_is_least : Addr} {oc__law_is_least kV__law_is_least dc__law_is_least pm__law_is_least cd__law_is_least ct__law_is_least : Value} {od__law_is_least an__law_is_least : Option Addr} {sl__law_is_least : Array (Option Value)}
    {f__law_is_row : Addr} {oc__law_is_row kV__law_is_row dc__law_is_row pm__law_is_row cd__law_is_row ct__law_is_row : Value} {od__law_is_row an__law_is_row : Option Addr} {sl__law_is_row : Array (Option Value)}
    {f__law_form_right : Addr} {oc__law_form_right kV__law_form_right dc__law_form_right pm__law_form_right cd__law_form_right ct__law_form_right : Value} {od__law_form_right an__law_form_right : Option Addr} {sl__law_form_right : Array (Option Value)}
    {f__law_whole_rank : Addr} {oc__law_whole_rank kV__law_whole_rank dc__law_whole_rank pm__law_whole_rank cd__law_whole_rank ct__law_whole_rank : Value} {od__law_whole_rank an__law_whole_rank : Option Addr} {sl__law_whole_rank : Array (Option Value)}
    {f_law : Addr} {oc_law kV_law dc_law pm_law cd_law ct_law : Value} {od_law an_law : Option Addr} {sl_law : Array (Option Value)}
    (seer : seerB K = true)
    (a__law_mixed : PySem.W.nsIn K mainGlobals "_law_mixed" = some (some (.ref f__law_mixed))) (l__law_mixed : K.lookup f__law_mixed = some ⟨oc__law_mixed, od__law_mixed, .func (PySem.W.fnOf "_law_mixed" "_law_mixed" (defArgs s__law_mixed) (defBody s__law_mixed) (defScope s__law_mixed) .none kV__law_mixed dc__law_mixed pm__law_mixed an__law_mixed cd__law_mixed ct__law_mixed), sl__law_mixed⟩) (c__law_mixed : PySem.W.codeIn K cd__law_mixed "_law_mixed" = true) (k__law_mixed : PySem.W.keepIn K (.ref f__law_mixed) = true)
    (a__law_purse : PySem.W.nsIn K mainGlobals "_law_purse" = some (some (.ref f__law_purse))) (l__law_purse : K.lookup f__law_purse = some ⟨oc__law_purse, od__law_purse, .func (PySem.W.fnOf "_law_purse" "_law_purse" (defArgs s__law_purse) (defBody s__law_purse) (defScope s__law_purse) .none kV__law_purse dc__law_purse pm__law_purse an__law_purse cd__law_purse ct__law_purse), sl__law_purse⟩) (c__law_purse : PySem.W.codeIn K cd__law_purse "_law_purse" = true) (k__law_purse : PySem.W.keepIn K (.ref f__law_purse) = true)
    (a__law_take : PySem.W.nsIn K mainGlobals "_law_take" = some (some (.ref f__law_take))) (l__law_take : K.lookup f__law_take = some ⟨oc__law_take, od__law_take, .func (PySem.W.fnOf "_law_take" "_law_take" (defArgs s__law_take) (defBody s__law_take) (defScope s__law_take) .none kV__law_take dc__law_take pm__law_take an__law_take cd__law_take ct__law_take), sl__law_take⟩) (c__law_take : PySem.W.codeIn K cd__law_take "_law_take" = true) (k__law_take : PySem.W.keepIn K (.ref f__law_take) = true)
    (a__law_low : PySem.W.nsIn K mainGlobals "_law_low" = some (some (.ref f__law_low))) (l__law_low : K.lookup f__law_low = some ⟨oc__law_low, od__law_low, .func (PySem.W.fnOf "_law_low" "_law_low" (defArgs s__law_low) (defBody s__law_low) (defScope s__law_low) .none kV__law_low dc__law_low pm__law_low an__law_low cd__law_low ct__law_low), sl__law_low⟩) (c__law_low : PySem.W.codeIn K cd__law_low "_law_low" = true) (k__law_low : PySem.W.keepIn K (.ref f__law_low) = true)
    (a__law_few : PySem.W.nsIn K mainGlobals "_law_few" = some (some (.ref f__law_few))) (l__law_few : K.lookup f__law_few = some ⟨oc__law_few, od__law_few, .func (PySem.W.fnOf "_law_few" "_law_few" (defArgs s__law_few) (defBody s__law_few) (defScope s__law_few) .none kV__law_few dc__law_few pm__law_few an__law_few cd__law_few ct__law_few), sl__law_few⟩) (c__law_few : PySem.W.codeIn K cd__law_few "_law_few" = true) (k__law_few : PySem.W.keepIn K (.ref f__law_few) = true)
    (a_is_whole : PySem.W.nsIn K mainGlobals "is_whole" = some (some (.ref f_is_whole))) (l_is_whole : K.lookup f_is_whole = some ⟨oc_is_whole, od_is_whole, .func (PySem.W.fnOf "is_whole" "is_whole" (defArgs s_is_whole) (defBody s_is_whole) (defScope s_is_whole) .none kV_is_whole dc_is_whole pm_is_whole an_is_whole cd_is_whole ct_is_whole), sl_is_whole⟩) (c_is_whole : PySem.W.codeIn K cd_is_whole "is_whole" = true) (k_is_whole : PySem.W.keepIn K (.ref f_is_whole) = true)
    (a_is_word : PySem.W.nsIn K mainGlobals "is_word" = some (some (.ref f_is_word))) (l_is_word : K.lookup f_is_word = some ⟨oc_is_word, od_is_word, .func (PySem.W.fnOf "is_word" "is_word" (defArgs s_is_word) (defBody s_is_word) (defScope s_is_word) .none kV_is_word dc_is_word pm_is_word an_is_word cd_is_word ct_is_word), sl_is_word⟩) (c_is_word : PySem.W.codeIn K cd_is_word "is_word" = true) (k_is_word : PySem.W.keepIn K (.ref f_is_word) = true)
    (a_check_word : PySem.W.nsIn K mainGlobals "check_word" = some (some (.ref f_check_word))) (l_check_word : K.lookup f_check_word = some ⟨oc_check_word, od_check_word, .func (PySem.W.fnOf "check_word" "check_word" (defArgs s_check_word) (defBody s_check_word) (defScope s_check_word) .none kV_check_word dc_check_word pm_check_word an_check_word cd_check_word ct_check_word), sl_check_word⟩) (c_check_word : PySem.W.codeIn K cd_check_word "check_word" = true) (k_check_word : PySem.W.keepIn K (.ref f_check_word) = true)
    (a_is_least : PySem.W.nsIn K mainGlobals "is_least" = some (some (.ref f_is_least))) (l_is_least : K.lookup f_is_least = some ⟨oc_is_least, od_is_least, .func (PySem.W.fnOf "is_least" "is_least" (defArgs s_is_least) (defBody s_is_least) (defScope s_is_least) .none kV_is_least dc_is_least pm_is_least an_is_least cd_is_least ct_is_least), sl_is_least⟩) (c_is_least : PySem.W.codeIn K cd_is_least "is_least" = true) (k_is_least : PySem.W.keepIn K (.ref f_is_least) = true)
    (a_falling : PySem.W.nsIn K mainGlobals "falling" = some (some (.ref f_falling))) (l_falling : K.lookup f_falling = some ⟨oc_falling, od_falling, .func (PySem.W.fnOf "falling" "falling" (defArgs s_falling) (defBody s_falling) (defScope s_falling) .none kV_falling dc_falling pm_falling an_falling cd_falling ct_falling), sl_falling⟩) (c_falling : PySem.W.codeIn K cd_falling "falling" = true) (k_falling : PySem.W.keepIn K (.ref f_falling) = true)
    (a_fallen : PySem.W.nsIn K mainGlobals "fallen" = some (some (.ref f_fallen))) (l_fallen : K.lookup f_fallen = some ⟨oc_fallen, od_fallen, .func (PySem.W.fnOf "fallen" "fallen" (defArgs s_fallen) (defBody s_fallen) (defScope s_fallen) .none kV_fallen dc_fallen pm_fallen an_fallen cd_fallen ct_fallen), sl_fallen⟩) (c_fallen : PySem.W.codeIn K cd_fallen "fallen" = true) (k_fallen : PySem.W.keepIn K (.ref f_fallen) = true)
    (a__law_word : PySem.W.nsIn K mainGlobals "_law_word" = some (some (.ref f__law_word))) (l__law_word : K.lookup f__law_word = some ⟨oc__law_word, od__law_word, .func (PySem.W.fnOf "_law_word" "_law_word" (defArgs s__law_word) (defBody s__law_word) (defScope s__law_word) .none kV__law_word dc__law_word pm__law_word an__law_word cd__law_word ct__law_word), sl__law_word⟩) (c__law_word : PySem.W.codeIn K cd__law_word "_law_word" = true) (k__law_word : PySem.W.keepIn K (.ref f__law_word) = true)
    (a__law_rows_drawn : PySem.W.nsIn K mainGlobals "_law_rows_drawn" = some (some (.ref f__law_rows_drawn))) (l__law_rows_drawn : K.lookup f__law_rows_drawn = some ⟨oc__law_rows_drawn, od__law_rows_drawn, .func (PySem.W.fnOf "_law_rows_drawn" "_law_rows_drawn" (defArgs s__law_rows_drawn) (defBody s__law_rows_drawn) (defScope s__law_rows_drawn) .none kV__law_rows_drawn dc__law_rows_drawn pm__law_rows_drawn an__law_rows_drawn cd__law_rows_drawn ct__law_rows_drawn), sl__law_rows_drawn⟩) (c__law_rows_drawn : PySem.W.codeIn K cd__law_rows_drawn "_law_rows_drawn" = true) (k__law_rows_drawn : PySem.W.keepIn K (.ref f__law_rows_drawn) = true)
    (a__law_rank : PySem.W.nsIn K mainGlobals "_law_rank" = some (some (.ref f__law_rank))) (l__law_rank : K.lookup f__law_rank = some ⟨oc__law_rank, od__law_rank, .func (PySem.W.fnOf "_law_rank" "_law_rank" (defArgs s__law_rank) (defBody s__law_rank) (defScope s__law_rank) .none kV__law_rank dc__law_rank pm__law_rank an__law_rank cd__law_rank ct__law_rank), sl__law_rank⟩) (c__law_rank : PySem.W.codeIn K cd__law_rank "_law_rank" = true) (k__law_rank : PySem.W.keepIn K (.ref f__law_rank) = true)
    (a__law_told : PySem.W.nsIn K mainGlobals "_law_told" = some (some (.ref f__law_told))) (l__law_told : K.lookup f__law_told = some ⟨oc__law_told, od__law_told, .func (PySem.W.fnOf "_law_told" "_law_told" (defArgs s__law_told) (defBody s__law_told) (defScope s__law_told) .none kV__law_told dc__law_told pm__law_told an__law_told cd__law_told ct__law_told), sl__law_told⟩) (c__law_told : PySem.W.codeIn K cd__law_told "_law_told" = true) (k__law_told : PySem.W.keepIn K (.ref f__law_told) = true)
    (a_check_count : PySem.W.nsIn K mainGlobals "check_count" = some (some (.ref f_check_count))) (l_check_count : K.lookup f_check_count = some ⟨oc_check_count, od_check_count, .func (PySem.W.fnOf "check_count" "check_count" (defArgs s_check_count) (defBody s_check_count) (defScope s_check_count) .none kV_check_count dc_check_count pm_check_count an_check_count cd_check_count ct_check_count), sl_check_count⟩) (c_check_count : PySem.W.codeIn K cd_check_count "check_count" = true) (k_check_count : PySem.W.keepIn K (.ref f_check_count) = true)
    (a_divisor : PySem.W.nsIn K mainGlobals "divisor" = some (some (.ref f_divisor))) (l_divisor : K.lookup f_divisor = some ⟨oc_divisor, od_divisor, .func (PySem.W.fnOf "divisor" "divisor" (defArgs s_divisor) (defBody s_divisor) (defScope s_divisor) .none kV_divisor dc_divisor pm_divisor an_divisor cd_divisor ct_divisor), sl_divisor⟩) (c_divisor : PySem.W.codeIn K cd_divisor "divisor" = true) (k_divisor : PySem.W.keepIn K (.ref f_divisor) = true)
    (a_is_number : PySem.W.nsIn K mainGlobals "is_number" = some (some (.ref f_is_number))) (l_is_number : K.lookup f_is_number = some ⟨oc_is_number, od_is_number, .func (PySem.W.fnOf "is_number" "is_number" (defArgs s_is_number) (defBody s_is_number) (defScope s_is_number) .none kV_is_number dc_is_number pm_is_number an_is_number cd_is_number ct_is_number), sl_is_number⟩) (c_is_number : PySem.W.codeIn K cd_is_number "is_number" = true) (k_is_number : PySem.W.keepIn K (.ref f_is_number) = true)
    (a_is_term : PySem.W.nsIn K mainGlobals "is_term" = some (some (.ref f_is_term))) (l_is_term : K.lookup f_is_term = some ⟨oc_is_term, od_is_term, .func (PySem.W.fnOf "is_term" "is_term" (defArgs s_is_term) (defBody s_is_term) (defScope s_is_term) .none kV_is_term dc_is_term pm_is_term an_is_term cd_is_term ct_is_term), sl_is_term⟩) (c_is_term : PySem.W.codeIn K cd_is_term "is_term" = true) (k_is_term : PySem.W.keepIn K (.ref f_is_term) = true)
    (a_rank : PySem.W.nsIn K mainGlobals "rank" = some (some (.ref f_rank))) (l_rank : K.lookup f_rank = some ⟨oc_rank, od_rank, .func (PySem.W.fnOf "rank" "rank" (defArgs s_rank) (defBody s_rank) (defScope s_rank) .none kV_rank dc_rank pm_rank an_rank cd_rank ct_rank), sl_rank⟩) (c_rank : PySem.W.codeIn K cd_rank "rank" = true) (k_rank : PySem.W.keepIn K (.ref f_rank) = true)
    (a_check_sum : PySem.W.nsIn K mainGlobals "check_sum" = some (some (.ref f_check_sum))) (l_check_sum : K.lookup f_check_sum = some ⟨oc_check_sum, od_check_sum, .func (PySem.W.fnOf "check_sum" "check_sum" (defArgs s_check_sum) (defBody s_check_sum) (defScope s_check_sum) .none kV_check_sum dc_check_sum pm_check_sum an_check_sum cd_check_sum ct_check_sum), sl_check_sum⟩) (c_check_sum : PySem.W.codeIn K cd_check_sum "check_sum" = true) (k_check_sum : PySem.W.keepIn K (.ref f_check_sum) = true)
    (a_gathered : PySem.W.nsIn K mainGlobals "gathered" = some (some (.ref f_gathered))) (l_gathered : K.lookup f_gathered = some ⟨oc_gathered, od_gathered, .func (PySem.W.fnOf "gathered" "gathered" (defArgs s_gathered) (defBody s_gathered) (defScope s_gathered) .none kV_gathered dc_gathered pm_gathered an_gathered cd_gathered ct_gathered), sl_gathered⟩) (c_gathered : PySem.W.codeIn K cd_gathered "gathered" = true) (k_gathered : PySem.W.keepIn K (.ref f_gathered) = true)
    (a_lowest : PySem.W.nsIn K mainGlobals "lowest" = some (some (.ref f_lowest))) (l_lowest : K.lookup f_lowest = some ⟨oc_lowest, od_lowest, .func (PySem.W.fnOf "lowest" "lowest" (defArgs s_lowest) (defBody s_lowest) (defScope s_lowest) .none kV_lowest dc_lowest pm_lowest an_lowest cd_lowest ct_lowest), sl_lowest⟩) (c_lowest : PySem.W.codeIn K cd_lowest "lowest" = true) (k_lowest : PySem.W.keepIn K (.ref f_lowest) = true)
    (a_plus : PySem.W.nsIn K mainGlobals "plus" = some (some (.ref f_plus))) (l_plus : K.lookup f_plus = some ⟨oc_plus, od_plus, .func (PySem.W.fnOf "plus" "plus" (defArgs s_plus) (defBody s_plus) (defScope s_plus) .none kV_plus dc_plus pm_plus an_plus cd_plus ct_plus), sl_plus⟩) (c_plus : PySem.W.codeIn K cd_plus "plus" = true) (k_plus : PySem.W.keepIn K (.ref f_plus) = true)
    (a_put_to : PySem.W.nsIn K mainGlobals "put_to" = some (some (.ref f_put_to))) (l_put_to : K.lookup f_put_to = some ⟨oc_put_to, od_put_to, .func (PySem.W.fnOf "put_to" "put_to" (defArgs s_put_to) (defBody s_put_to) (defScope s_put_to) .none kV_put_to dc_put_to pm_put_to an_put_to cd_put_to ct_put_to), sl_put_to⟩) (c_put_to : PySem.W.codeIn K cd_put_to "put_to" = true) (k_put_to : PySem.W.keepIn K (.ref f_put_to) = true)
    (a_times : PySem.W.nsIn K mainGlobals "times" = some (some (.ref f_times))) (l_times : K.lookup f_times = some ⟨oc_times, od_times, .func (PySem.W.fnOf "times" "times" (defArgs s_times) (defBody s_times) (defScope s_times) .none kV_times dc_times pm_times an_times cd_times ct_times), sl_times⟩) (c_times : PySem.W.codeIn K cd_times "times" = true) (k_times : PySem.W.keepIn K (.ref f_times) = true)
    (a_joined_to : PySem.W.nsIn K mainGlobals "joined_to" = some (some (.ref f_joined_to))) (l_joined_to : K.lookup f_joined_to = some ⟨oc_joined_to, od_joined_to, .func (PySem.W.fnOf "joined_to" "joined_to" (defArgs s_joined_to) (defBody s_joined_to) (defScope s_joined_to) .none kV_joined_to dc_joined_to pm_joined_to an_joined_to cd_joined_to ct_joined_to), sl_joined_to⟩) (c_joined_to : PySem.W.codeIn K cd_joined_to "joined_to" = true) (k_joined_to : PySem.W.keepIn K (.ref f_joined_to) = true)
    (a_told_sum : PySem.W.nsIn K mainGlobals "told_sum" = some (some (.ref f_told_sum))) (l_told_sum : K.lookup f_told_sum = some ⟨oc_told_sum, od_told_sum, .func (PySem.W.fnOf "told_sum" "told_sum" (defArgs s_told_sum) (defBody s_told_sum) (defScope s_told_sum) .none kV_told_sum dc_told_sum pm_told_sum an_told_sum cd_told_sum ct_told_sum), sl_told_sum⟩) (c_told_sum : PySem.W.codeIn K cd_told_sum "told_sum" = true) (k_told_sum : PySem.W.keepIn K (.ref f_told_sum) = true)
    (a_contrary : PySem.W.nsIn K mainGlobals "contrary" = some (some (.ref f_contrary))) (l_contrary : K.lookup f_contrary = some ⟨oc_contrary, od_contrary, .func (PySem.W.fnOf "contrary" "contrary" (defArgs s_contrary) (defBody s_contrary) (defScope s_contrary) .none kV_contrary dc_contrary pm_contrary an_contrary cd_contrary ct_contrary), sl_contrary⟩) (c_contrary : PySem.W.codeIn K cd_contrary "contrary" = true) (k_contrary : PySem.W.keepIn K (.ref f_contrary) = true)
    (a_said_by : PySem.W.nsIn K mainGlobals "said_by" = some (some (.ref f_said_by))) (l_said_by : K.lookup f_said_by = some ⟨oc_said_by, od_said_by, .func (PySem.W.fnOf "said_by" "said_by" (defArgs s_said_by) (defBody s_said_by) (defScope s_said_by) .none kV_said_by dc_said_by pm_said_by an_said_by cd_said_by ct_said_by), sl_said_by⟩) (c_said_by : PySem.W.codeIn K cd_said_by "said_by" = true) (k_said_by : PySem.W.keepIn K (.ref f_said_by) = true)
    (a_tree_by : PySem.W.nsIn K mainGlobals "tree_by" = some (some (.ref f_tree_by))) (l_tree_by : K.lookup f_tree_by = some ⟨oc_tree_by, od_tree_by, .func (PySem.W.fnOf "tree_by" "tree_by" (defArgs s_tree_by) (defBody s_tree_by) (defScope s_tree_by) .none kV_tree_by dc_tree_by pm_tree_by an_tree_by cd_tree_by ct_tree_by), sl_tree_by⟩) (c_tree_by : PySem.W.codeIn K cd_tree_by "tree_by" = true) (k_tree_by : PySem.W.keepIn K (.ref f_tree_by) = true)
    (a_joined_trees : PySem.W.nsIn K mainGlobals "joined_trees" = some (some (.ref f_joined_trees))) (l_joined_trees : K.lookup f_joined_trees = some ⟨oc_joined_trees, od_joined_trees, .func (PySem.W.fnOf "joined_trees" "joined_trees" (defArgs s_joined_trees) (defBody s_joined_trees) (defScope s_joined_trees) .none kV_joined_trees dc_joined_trees pm_joined_trees an_joined_trees cd_joined_trees ct_joined_trees), sl_joined_trees⟩) (c_joined_trees : PySem.W.codeIn K cd_joined_trees "joined_trees" = true) (k_joined_trees : PySem.W.keepIn K (.ref f_joined_trees) = true)
    (a_told_by_least : PySem.W.nsIn K mainGlobals "told_by_least" = some (some (.ref f_told_by_least))) (l_told_by_least : K.lookup f_told_by_least = some ⟨oc_told_by_least, od_told_by_least, .func (PySem.W.fnOf "told_by_least" "told_by_least" (defArgs s_told_by_least) (defBody s_told_by_least) (defScope s_told_by_least) .none kV_told_by_least dc_told_by_least pm_told_by_least an_told_by_least cd_told_by_least ct_told_by_least), sl_told_by_least⟩) (c_told_by_least : PySem.W.codeIn K cd_told_by_least "told_by_least" = true) (k_told_by_least : PySem.W.keepIn K (.ref f_told_by_least) = true)
    (a__law_at : PySem.W.nsIn K mainGlobals "_law_at" = some (some (.ref f__law_at))) (l__law_at : K.lookup f__law_at = some ⟨oc__law_at, od__law_at, .func (PySem.W.fnOf "_law_at" "_law_at" (defArgs s__law_at) (defBody s__law_at) (defScope s__law_at) .none kV__law_at dc__law_at pm__law_at an__law_at cd__law_at ct__law_at), sl__law_at⟩) (c__law_at : PySem.W.codeIn K cd__law_at "_law_at" = true) (k__law_at : PySem.W.keepIn K (.ref f__law_at) = true)
    (a__law_number : PySem.W.nsIn K mainGlobals "_law_number" = some (some (.ref f__law_number))) (l__law_number : K.lookup f__law_number = some ⟨oc__law_number, od__law_number, .func (PySem.W.fnOf "_law_number" "_law_number" (defArgs s__law_number) (defBody s__law_number) (defScope s__law_number) .none kV__law_number dc__law_number pm__law_number an__law_number cd__law_number ct__law_number), sl__law_number⟩) (c__law_number : PySem.W.codeIn K cd__law_number "_law_number" = true) (k__law_number : PySem.W.keepIn K (.ref f__law_number) = true)
    (a__law_sum : PySem.W.nsIn K mainGlobals "_law_sum" = some (some (.ref f__law_sum))) (l__law_sum : K.lookup f__law_sum = some ⟨oc__law_sum, od__law_sum, .func (PySem.W.fnOf "_law_sum" "_law_sum" (defArgs s__law_sum) (defBody s__law_sum) (defScope s__law_sum) .none kV__law_sum dc__law_sum pm__law_sum an__law_sum cd__law_sum ct__law_sum), sl__law_sum⟩) (c__law_sum : PySem.W.codeIn K cd__law_sum "_law_sum" = true) (k__law_sum : PySem.W.keepIn K (.ref f__law_sum) = true)
    (a__law_plus : PySem.W.nsIn K mainGlobals "_law_plus" = some (some (.ref f__law_plus))) (l__law_plus : K.lookup f__law_plus = some ⟨oc__law_plus, od__law_plus, .func (PySem.W.fnOf "_law_plus" "_law_plus" (defArgs s__law_plus) (defBody s__law_plus) (defScope s__law_plus) .none kV__law_plus dc__law_plus pm__law_plus an__law_plus cd__law_plus ct__law_plus), sl__law_plus⟩) (c__law_plus : PySem.W.codeIn K cd__law_plus "_law_plus" = true) (k__law_plus : PySem.W.keepIn K (.ref f__law_plus) = true)
    (a__law_put : PySem.W.nsIn K mainGlobals "_law_put" = some (some (.ref f__law_put))) (l__law_put : K.lookup f__law_put = some ⟨oc__law_put, od__law_put, .func (PySem.W.fnOf "_law_put" "_law_put" (defArgs s__law_put) (defBody s__law_put) (defScope s__law_put) .none kV__law_put dc__law_put pm__law_put an__law_put cd__law_put ct__law_put), sl__law_put⟩) (c__law_put : PySem.W.codeIn K cd__law_put "_law_put" = true) (k__law_put : PySem.W.keepIn K (.ref f__law_put) = true)
    (a__law_by : PySem.W.nsIn K mainGlobals "_law_by" = some (some (.ref f__law_by))) (l__law_by : K.lookup f__law_by = some ⟨oc__law_by, od__law_by, .func (PySem.W.fnOf "_law_by" "_law_by" (defArgs s__law_by) (defBody s__law_by) (defScope s__law_by) .none kV__law_by dc__law_by pm__law_by an__law_by cd__law_by ct__law_by), sl__law_by⟩) (c__law_by : PySem.W.codeIn K cd__law_by "_law_by" = true) (k__law_by : PySem.W.keepIn K (.ref f__law_by) = true)
    (a__law_joined : PySem.W.nsIn K mainGlobals "_law_joined" = some (some (.ref f__law_joined))) (l__law_joined : K.lookup f__law_joined = some ⟨oc__law_joined, od__law_joined, .func (PySem.W.fnOf "_law_joined" "_law_joined" (defArgs s__law_joined) (defBody s__law_joined) (defScope s__law_joined) .none kV__law_joined dc__law_joined pm__law_joined an__law_joined cd__law_joined ct__law_joined), sl__law_joined⟩) (c__law_joined : PySem.W.codeIn K cd__law_joined "_law_joined" = true) (k__law_joined : PySem.W.keepIn K (.ref f__law_joined) = true)
    (a__law_not : PySem.W.nsIn K mainGlobals "_law_not" = some (some (.ref f__law_not))) (l__law_not : K.lookup f__law_not = some ⟨oc__law_not, od__law_not, .func (PySem.W.fnOf "_law_not" "_law_not" (defArgs s__law_not) (defBody s__law_not) (defScope s__law_not) .none kV__law_not dc__law_not pm__law_not an__law_not cd__law_not ct__law_not), sl__law_not⟩) (c__law_not : PySem.W.codeIn K cd__law_not "_law_not" = true) (k__law_not : PySem.W.keepIn K (.ref f__law_not) = true)
    (a__law_less : PySem.W.nsIn K mainGlobals "_law_less" = some (some (.ref f__law_less))) (l__law_less : K.lookup f__law_less = some ⟨oc__law_less, od__law_less, .func (PySem.W.fnOf "_law_less" "_law_less" (defArgs s__law_less) (defBody s__law_less) (defScope s__law_less) .none kV__law_less dc__law_less pm__law_less an__law_less cd__law_less ct__law_less), sl__law_less⟩) (c__law_less : PySem.W.codeIn K cd__law_less "_law_less" = true) (k__law_less : PySem.W.keepIn K (.ref f__law_less) = true)
    (a__law_said : PySem.W.nsIn K mainGlobals "_law_said" = some (some (.ref f__law_said))) (l__law_said : K.lookup f__law_said = some ⟨oc__law_said, od__law_said, .func (PySem.W.fnOf "_law_said" "_law_said" (defArgs s__law_said) (defBody s__law_said) (defScope s__law_said) .none kV__law_said dc__law_said pm__law_said an__law_said cd__law_said ct__law_said), sl__law_said⟩) (c__law_said : PySem.W.codeIn K cd__law_said "_law_said" = true) (k__law_said : PySem.W.keepIn K (.ref f__law_said) = true)
    (a_least_tree : PySem.W.nsIn K mainGlobals "least_tree" = some (some (.ref f_least_tree))) (l_least_tree : K.lookup f_least_tree = some ⟨oc_least_tree, od_least_tree, .func (PySem.W.fnOf "least_tree" "least_tree" (defArgs s_least_tree) (defBody s_least_tree) (defScope s_least_tree) .none kV_least_tree dc_least_tree pm_least_tree an_least_tree cd_least_tree ct_least_tree), sl_least_tree⟩) (c_least_tree : PySem.W.codeIn K cd_least_tree "least_tree" = true) (k_least_tree : PySem.W.keepIn K (.ref f_least_tree) = true)
    (a__law_row_sum : PySem.W.nsIn K mainGlobals "_law_row_sum" = some (some (.ref f__law_row_sum))) (l__law_row_sum : K.lookup f__law_row_sum = some ⟨oc__law_row_sum, od__law_row_sum, .func (PySem.W.fnOf "_law_row_sum" "_law_row_sum" (defArgs s__law_row_sum) (defBody s__law_row_sum) (defScope s__law_row_sum) .none kV__law_row_sum dc__law_row_sum pm__law_row_sum an__law_row_sum cd__law_row_sum ct__law_row_sum), sl__law_row_sum⟩) (c__law_row_sum : PySem.W.codeIn K cd__law_row_sum "_law_row_sum" = true) (k__law_row_sum : PySem.W.keepIn K (.ref f__law_row_sum) = true)
    (a__law_all : PySem.W.nsIn K mainGlobals "_law_all" = some (some (.ref f__law_all))) (l__law_all : K.lookup f__law_all = some ⟨oc__law_all, od__law_all, .func (PySem.W.fnOf "_law_all" "_law_all" (defArgs s__law_all) (defBody s__law_all) (defScope s__law_all) .none kV__law_all dc__law_all pm__law_all an__law_all cd__law_all ct__law_all), sl__law_all⟩) (c__law_all : PySem.W.codeIn K cd__law_all "_law_all" = true) (k__law_all : PySem.W.keepIn K (.ref f__law_all) = true)
    (a__law_whole_word : PySem.W.nsIn K mainGlobals "_law_whole_word" = some (some (.ref f__law_whole_word))) (l__law_whole_word : K.lookup f__law_whole_word = some ⟨oc__law_whole_word, od__law_whole_word, .func (PySem.W.fnOf "_law_whole_word" "_law_whole_word" (defArgs s__law_whole_word) (defBody s__law_whole_word) (defScope s__law_whole_word) .none kV__law_whole_word dc__law_whole_word pm__law_whole_word an__law_whole_word cd__law_whole_word ct__law_whole_word), sl__law_whole_word⟩) (c__law_whole_word : PySem.W.codeIn K cd__law_whole_word "_law_whole_word" = true) (k__law_whole_word : PySem.W.keepIn K (.ref f__law_whole_word) = true)
    (a__law_is_least : PySem.W.nsIn K mainGlobals "_law_is_least" = some (some (.ref f__law_is_least))) (l__law_is_least : K.lookup f__law_is_least = some ⟨oc__law_is_least, od__law_is_least, .func (PySem.W.fnOf "_law_is_least" "_law_is_least" (defArgs s__law_is_least) (defBody s__law_is_least) (defScope s__law_is_least) .none kV__law_is_least dc__law_is_least pm__law_is_least an__law_is_least cd__law_is_least ct__law_is_least), sl__law_is_least⟩) (c__law_is_least : PySem.W.codeIn K cd__law_is_least "_law_is_least" = true) (k__law_is_least : PySem.W.keepIn K (.ref f__law_is_least) = true)
    (a__law_is_row : PySem.W.nsIn K mainGlobals "_law_is_row" = some (some (.ref f__law_is_row))) (l__law_is_row : K.lookup f__law_is_row = some ⟨oc__law_is_row, od__law_is_row, .func (PySem.W.fnOf "_law_is_row" "_law_is_row" (defArgs s__law_is_row) (defBody s__law_is_row) (defScope s__law_is_row) .none kV__law_is_row dc__law_is_row pm__law_is_row an__law_is_row cd__law_is_row ct__law_is_row), sl__law_is_row⟩) (c__law_is_row : PySem.W.codeIn K cd__law_is_row "_law_is_row" = true) (k__law_is_row : PySem.W.keepIn K (.ref f__law_is_row) = true)
    (a__law_form_right : PySem.W.nsIn K mainGlobals "_law_form_right" = some (some (.ref f__law_form_right))) (l__law_form_right : K.lookup f__law_form_right = some ⟨oc__law_form_right, od__law_form_right, .func (PySem.W.fnOf "_law_form_right" "_law_form_right" (defArgs s__law_form_right) (defBody s__law_form_right) (defScope s__law_form_right) .none kV__law_form_right dc__law_form_right pm__law_form_right an__law_form_right cd__law_form_right ct__law_form_right), sl__law_form_right⟩) (c__law_form_right : PySem.W.codeIn K cd__law_form_right "_law_form_right" = true) (k__law_form_right : PySem.W.keepIn K (.ref f__law_form_right) = true)
    (a__law_whole_rank : PySem.W.nsIn K mainGlobals "_law_whole_rank" = some (some (.ref f__law_whole_rank))) (l__law_whole_rank : K.lookup f__law_whole_rank = some ⟨oc__law_whole_rank, od__law_whole_rank, .func (PySem.W.fnOf "_law_whole_rank" "_law_whole_rank" (defArgs s__law_whole_rank) (defBody s__law_whole_rank) (defScope s__law_whole_rank) .none kV__law_whole_rank dc__law_whole_rank pm__law_whole_rank an__law_whole_rank cd__law_whole_rank ct__law_whole_rank), sl__law_whole_rank⟩) (c__law_whole_rank : PySem.W.codeIn K cd__law_whole_rank "_law_whole_rank" = true) (k__law_whole_rank : PySem.W.keepIn K (.ref f__law_whole_rank) = true)
    (a_law : PySem.W.nsIn K mainGlobals "law" = some (some (.ref f_law))) (l_law : K.lookup f_law = some ⟨oc_law, od_law, .func (PySem.W.fnOf "law" "law" (defArgs s_law) (defBody s_law) (defScope s_law) .none kV_law dc_law pm_law an_law cd_law ct_law), sl_law⟩) (c_law : PySem.W.codeIn K cd_law "law" = true) (k_law : PySem.W.keepIn K (.ref f_law) = true)
    (z_abs : PySem.W.nsIn K mainGlobals "abs" = some none)
    (z_bool : PySem.W.nsIn K mainGlobals "bool" = some none)
    (z_dict : PySem.W.nsIn K mainGlobals "dict" = some none)
    (z_enumerate : PySem.W.nsIn K mainGlobals "enumerate" = some none)
    (z_int : PySem.W.nsIn K mainGlobals "int" = some none)
    (z_isinstance : PySem.W.nsIn K mainGlobals "isinstance" = some none)
    (z_len : PySem.W.nsIn K mainGlobals "len" = some none)
    (z_list : PySem.W.nsIn K mainGlobals "list" = some none)
    (z_max : PySem.W.nsIn K mainGlobals "max" = some none)
    (z_min : PySem.W.nsIn K mainGlobals "min" = some none)
    (z_range : PySem.W.nsIn K mainGlobals "range" = some none)
    (z_sorted : PySem.W.nsIn K mainGlobals "sorted" = some none)
    (z_tuple : PySem.W.nsIn K mainGlobals "tuple" = some none)
    (y_MOST : Konst K mg "MOST" k_MOST)
    (y_MOST_LETTERS : Konst K mg "MOST_LETTERS" k_MOST_LETTERS)
    (y_NOUGHT : Konst K mg "NOUGHT" k_NOUGHT)
    (y_ONE : Konst K mg "ONE" k_ONE) :
    ∃ fd : FuncData, (∀ (s : Shared) (v : Value), BindsTo s fd ⟨[v], []⟩ [("_law_script", v)]) ∧ ∀ base : Heap, K.In base → base.Ns mainGlobals mg → FnOk l.prog w K mg base (L2.CX l.prog w) 50 fa fd ["_law_script"] (specL K m_law) := by
  have e := hfa.symm.trans (PySem.W.mg_of X G a_law)
  cases e
  have F__law_mixed := fun_mk (st := s__law_mixed) l__law_mixed c__law_mixed k__law_mixed
  have F__law_purse := fun_mk (st := s__law_purse) l__law_purse c__law_purse k__law_purse
  have F__law_take := fun_mk (st := s__law_take) l__law_take c__law_take k__law_take
  have F__law_low := fun_mk (st := s__law_low) l__law_low c__law_low k__law_low
  have F__law_few := fun_mk (st := s__law_few) l__law_few c__law_few k__law_few
  have F_is_whole := fun_mk (st := s_is_whole) l_is_whole c_is_whole k_is_whole
  have F_is_word := fun_mk (st := s_is_word) l_is_word c_is_word k_is_word
  have F_check_word := fun_mk (st := s_check_word) l_check_word c_check_word k_check_word
  have F_is_least := fun_mk (st := s_is_least) l_is_least c_is_least k_is_least
  have F_falling := fun_mk (st := s_falling) l_falling c_falling k_falling
  have F_fallen := fun_mk (st := s_fallen) l_fallen c_fallen k_fallen
  have F__law_word := fun_mk (st := s__law_word) l__law_word c__law_word k__law_word
  have F__law_rows_drawn := fun_mk (st := s__law_rows_drawn) l__law_rows_drawn c__law_rows_drawn k__law_rows_drawn
  have F__law_rank := fun_mk (st := s__law_rank) l__law_rank c__law_rank k__law_rank
  have F__law_told := fun_mk (st := s__law_told) l__law_told c__law_told k__law_told
  have F_check_count := fun_mk (st := s_check_count) l_check_count c_check_count k_check_count
  have F_divisor := fun_mk (st := s_divisor) l_divisor c_divisor k_divisor
  have F_is_number := fun_mk (st := s_is_number) l_is_number c_is_number k_is_number
  have F_is_term := fun_mk (st := s_is_term) l_is_term c_is_term k_is_term
  have F_rank := fun_mk (st := s_rank) l_rank c_rank k_rank
  have F_check_sum := fun_mk (st := s_check_sum) l_check_sum c_check_sum k_check_sum
  have F_gathered := fun_mk (st := s_gathered) l_gathered c_gathered k_gathered
  have F_lowest := fun_mk (st := s_lowest) l_lowest c_lowest k_lowest
  have F_plus := fun_mk (st := s_plus) l_plus c_plus k_plus
  have F_put_to := fun_mk (st := s_put_to) l_put_to c_put_to k_put_to
  have F_times := fun_mk (st := s_times) l_times c_times k_times
  have F_joined_to := fun_mk (st := s_joined_to) l_joined_to c_joined_to k_joined_to
  have F_told_sum := fun_mk (st := s_told_sum) l_told_sum c_told_sum k_told_sum
  have F_contrary := fun_mk (st := s_contrary) l_contrary c_contrary k_contrary
  have F_said_by := fun_mk (st := s_said_by) l_said_by c_said_by k_said_by
  have F_tree_by := fun_mk (st := s_tree_by) l_tree_by c_tree_by k_tree_by
  have F_joined_trees := fun_mk (st := s_joined_trees) l_joined_trees c_joined_trees k_joined_trees
  have F_told_by_least := fun_mk (st := s_told_by_least) l_told_by_least c_told_by_least k_told_by_least
  have F__law_at := fun_mk (st := s__law_at) l__law_at c__law_at k__law_at
  have F__law_number := fun_mk (st := s__law_number) l__law_number c__law_number k__law_number
  have F__law_sum := fun_mk (st := s__law_sum) l__law_sum c__law_sum k__law_sum
  have F__law_plus := fun_mk (st := s__law_plus) l__law_plus c__law_plus k__law_plus
  have F__law_put := fun_mk (st := s__law_put) l__law_put c__law_put k__law_put
  have F__law_by := fun_mk (st := s__law_by) l__law_by c__law_by k__law_by
  have F__law_joined := fun_mk (st := s__law_joined) l__law_joined c__law_joined k__law_joined
  have F__law_not := fun_mk (st := s__law_not) l__law_not c__law_not k__law_not
  have F__law_less := fun_mk (st := s__law_less) l__law_less c__law_less k__law_less
  have F__law_said := fun_mk (st := s__law_said) l__law_said c__law_said k__law_said
  have F_least_tree := fun_mk (st := s_least_tree) l_least_tree c_least_tree k_least_tree
  have F__law_row_sum := fun_mk (st := s__law_row_sum) l__law_row_sum c__law_row_sum k__law_row_sum
  have F__law_all := fun_mk (st := s__law_all) l__law_all c__law_all k__law_all
  have F__law_whole_word := fun_mk (st := s__law_whole_word) l__law_whole_word c__law_whole_word k__law_whole_word
  have F__law_is_least := fun_mk (st := s__law_is_least) l__law_is_least c__law_is_least k__law_is_least
  have F__law_is_row := fun_mk (st := s__law_is_row) l__law_is_row c__law_is_row k__law_is_row
  have F__law_form_right := fun_mk (st := s__law_form_right) l__law_form_right c__law_form_right k__law_form_right
  have F__law_whole_rank := fun_mk (st := s__law_whole_rank) l__law_whole_rank c__law_whole_rank k__law_whole_rank
  have F_law := fun_mk (st := s_law) l_law c_law k_law
  have b__law_mixed := F__law_mixed.binds (ps := ["_law_cell", "_law_k"]) fun _ _ _ _ _ _ us hl => match us, hl with | [_, _], _ => rfl
  have b__law_purse := F__law_purse.binds (ps := ["_law_cell", "_law_k"]) fun _ _ _ _ _ _ us hl => match us, hl with | [_, _], _ => rfl
  have b__law_take := F__law_take.binds (ps := ["_law_purse_here", "_law_many"]) fun _ _ _ _ _ _ us hl => match us, hl with | [_, _], _ => rfl
  have b__law_low := F__law_low.binds (ps := ["_law_top", "_law_bottom"]) fun _ _ _ _ _ _ us hl => match us, hl with | [_, _], _ => rfl
  have b__law_few := F__law_few.binds (ps := ["_law_purse_here"]) fun _ _ _ _ _ _ us hl => match us, hl with | [_], _ => rfl
  have b_is_whole := F_is_whole.binds (ps := ["one"]) fun _ _ _ _ _ _ us hl => match us, hl with | [_], _ => rfl
  have b_is_word := F_is_word.binds (ps := ["word", "count"]) fun _ _ _ _ _ _ us hl => match us, hl with | [_, _], _ => rfl
  have b_check_word := F_check_word.binds (ps := ["word"]) fun _ _ _ _ _ _ us hl => match us, hl with | [_], _ => rfl
  have b_is_least := F_is_least.binds (ps := ["word"]) fun _ _ _ _ _ _ us hl => match us, hl with | [_], _ => rfl
  have b_falling := F_falling.binds (ps := ["word"]) fun _ _ _ _ _ _ us hl => match us, hl with | [_], _ => rfl
  have b_fallen := F_fallen.binds (ps := ["word"]) fun _ _ _ _ _ _ us hl => match us, hl with | [_], _ => rfl
  have b__law_word := F__law_word.binds (ps := ["_law_purse_here", "_law_count", "_law_most"]) fun _ _ _ _ _ _ us hl => match us, hl with | [_, _, _], _ => rfl
  have b__law_rows_drawn := F__law_rows_drawn.binds (ps := ["_law_purse_here", "_law_count"]) fun _ _ _ _ _ _ us hl => match us, hl with | [_, _], _ => rfl
  have b__law_rank := F__law_rank.binds (ps := ["_law_word_here"]) fun _ _ _ _ _ _ us hl => match us, hl with | [_], _ => rfl
  have b__law_told := F__law_told.binds (ps := ["_law_found"]) fun _ _ _ _ _ _ us hl => match us, hl with | [_], _ => rfl
  have b_check_count := F_check_count.binds (ps := ["count"]) fun _ _ _ _ _ _ us hl => match us, hl with | [_], _ => rfl
  have b_divisor := F_divisor.binds (ps := ["one", "other"]) fun _ _ _ _ _ _ us hl => match us, hl with | [_, _], _ => rfl
  have b_is_number := F_is_number.binds (ps := ["one"]) fun _ _ _ _ _ _ us hl => match us, hl with | [_], _ => rfl
  have b_is_term := F_is_term.binds (ps := ["told", "count"]) fun _ _ _ _ _ _ us hl => match us, hl with | [_, _], _ => rfl
  have b_rank := F_rank.binds (ps := ["word"]) fun _ _ _ _ _ _ us hl => match us, hl with | [_], _ => rfl
  have b_check_sum := F_check_sum.binds (ps := ["count", "total"]) fun _ _ _ _ _ _ us hl => match us, hl with | [_, _], _ => rfl
  have b_gathered := F_gathered.binds (ps := ["total"]) fun _ _ _ _ _ _ us hl => match us, hl with | [_], _ => rfl
  have b_lowest := F_lowest.binds (ps := ["top", "bottom"]) fun _ _ _ _ _ _ us hl => match us, hl with | [_, _], _ => rfl
  have b_plus := F_plus.binds (ps := ["one", "other"]) fun _ _ _ _ _ _ us hl => match us, hl with | [_, _], _ => rfl
  have b_put_to := F_put_to.binds (ps := ["numbers", "word", "number"]) fun _ _ _ _ _ _ us hl => match us, hl with | [_, _, _], _ => rfl
  have b_times := F_times.binds (ps := ["one", "other"]) fun _ _ _ _ _ _ us hl => match us, hl with | [_, _], _ => rfl
  have b_joined_to := F_joined_to.binds (ps := ["numbers", "one", "other"]) fun _ _ _ _ _ _ us hl => match us, hl with | [_, _, _], _ => rfl
  have b_told_sum := F_told_sum.binds (ps := ["numbers"]) fun _ _ _ _ _ _ us hl => match us, hl with | [_], _ => rfl
  have b_contrary := F_contrary.binds (ps := ["one"]) fun _ _ _ _ _ _ us hl => match us, hl with | [_], _ => rfl
  have b_said_by := F_said_by.binds (ps := ["tree"]) fun _ _ _ _ _ _ us hl => match us, hl with | [_], _ => rfl
  have b_tree_by := F_tree_by.binds (ps := ["word"]) fun _ _ _ _ _ _ us hl => match us, hl with | [_], _ => rfl
  have b_joined_trees := F_joined_trees.binds (ps := ["words"]) fun _ _ _ _ _ _ us hl => match us, hl with | [_], _ => rfl
  have b_told_by_least := F_told_by_least.binds (ps := ["count", "total"]) fun _ _ _ _ _ _ us hl => match us, hl with | [_, _], _ => rfl
  have b__law_at := F__law_at.binds (ps := ["_law_script", "_law_k"]) fun _ _ _ _ _ _ us hl => match us, hl with | [_, _], _ => rfl
  have b__law_number := F__law_number.binds (ps := ["_law_purse_here"]) fun _ _ _ _ _ _ us hl => match us, hl with | [_], _ => rfl
  have b__law_sum := F__law_sum.binds (ps := ["_law_purse_here", "_law_count", "_law_many", "_law_most"]) fun _ _ _ _ _ _ us hl => match us, hl with | [_, _, _, _], _ => rfl
  have b__law_plus := F__law_plus.binds (ps := ["_law_one", "_law_other"]) fun _ _ _ _ _ _ us hl => match us, hl with | [_, _], _ => rfl
  have b__law_put := F__law_put.binds (ps := ["_law_found", "_law_word_here", "_law_number_here"]) fun _ _ _ _ _ _ us hl => match us, hl with | [_, _, _], _ => rfl
  have b__law_by := F__law_by.binds (ps := ["_law_one", "_law_other"]) fun _ _ _ _ _ _ us hl => match us, hl with | [_, _], _ => rfl
  have b__law_joined := F__law_joined.binds (ps := ["_law_one", "_law_other"]) fun _ _ _ _ _ _ us hl => match us, hl with | [_, _], _ => rfl
  have b__law_not := F__law_not.binds (ps := ["_law_one"]) fun _ _ _ _ _ _ us hl => match us, hl with | [_], _ => rfl
  have b__law_less := F__law_less.binds (ps := ["_law_one", "_law_other"]) fun _ _ _ _ _ _ us hl => match us, hl with | [_, _], _ => rfl
  have b__law_said := F__law_said.binds (ps := ["_law_tree_here"]) fun _ _ _ _ _ _ us hl => match us, hl with | [_], _ => rfl
  have b_least_tree := F_least_tree.binds (ps := ["word"]) fun _ _ _ _ _ _ us hl => match us, hl with | [_], _ => rfl
  have b__law_row_sum := F__law_row_sum.binds (ps := ["_law_words"]) fun _ _ _ _ _ _ us hl => match us, hl with | [_], _ => rfl
  have b__law_all := F__law_all.binds (ps := ["_law_rows"]) fun _ _ _ _ _ _ us hl => match us, hl with | [_], _ => rfl
  have b__law_whole_word := F__law_whole_word.binds (ps := ["_law_words"]) fun _ _ _ _ _ _ us hl => match us, hl with | [_], _ => rfl
  have b__law_is_least := F__law_is_least.binds (ps := ["_law_word_here"]) fun _ _ _ _ _ _ us hl => match us, hl with | [_], _ => rfl
  have b__law_is_row := F__law_is_row.binds (ps := ["_law_words"]) fun _ _ _ _ _ _ us hl => match us, hl with | [_], _ => rfl
  have b__law_form_right := F__law_form_right.binds (ps := ["_law_told_here"]) fun _ _ _ _ _ _ us hl => match us, hl with | [_], _ => rfl
  have b__law_whole_rank := F__law_whole_rank.binds (ps := ["_law_row"]) fun _ _ _ _ _ _ us hl => match us, hl with | [_], _ => rfl
  have b_law := F_law.binds (ps := ["_law_script"]) fun _ _ _ _ _ _ us hl => match us, hl with | [_], _ => rfl
  refine ⟨PySem.W.fnOf "law" "law" (defArgs s_law) (defBody s_law) (defScope s_law) .none kV_law dc_law pm_law an_law cd_law ct_law, fun s v => .of_eq rfl, fun base _ _ => (@ok_law l.prog w K mg base {
    seer := seer, tree := tree,
    a__law_mixed := _, d__law_mixed := _, F__law_mixed := F__law_mixed, g__law_mixed := PySem.W.mg_of X G a__law_mixed, k__law_mixed := k__law_mixed, b__law_mixed := b__law_mixed,
    a__law_purse := _, d__law_purse := _, F__law_purse := F__law_purse, g__law_purse := PySem.W.mg_of X G a__law_purse, k__law_purse := k__law_purse, b__law_purse := b__law_purse,
    a__law_take := _, d__law_take := _, F__law_take := F__law_take, g__law_take := PySem.W.mg_of X G a__law_take, k__law_take := k__law_take, b__law_take := b__law_take,
    a__law_low := _, d__law_low := _, F__law_low := F__law_low, g__law_low := PySem.W.mg_of X G a__law_low, k__law_low := k__law_low, b__law_low := b__law_low,
    a__law_few := _, d__law_few := _, F__law_few := F__law_few, g__law_few := PySem.W.mg_of X G a__law_few, k__law_few := k__law_few, b__law_few := b__law_few,
    a_is_whole := _, d_is_whole := _, F_is_whole := F_is_whole, g_is_whole := PySem.W.mg_of X G a_is_whole, k_is_whole := k_is_whole, b_is_whole := b_is_whole,
    a_is_word := _, d_is_word := _, F_is_word := F_is_word, g_is_word := PySem.W.mg_of X G a_is_word, k_is_word := k_is_word, b_is_word := b_is_word,
    a_check_word := _, d_check_word := _, F_check_word := F_check_word, g_check_word := PySem.W.mg_of X G a_check_word, k_check_word := k_check_word, b_check_word := b_check_word,
    a_is_least := _, d_is_least := _, F_is_least := F_is_least, g_is_least := PySem.W.mg_of X G a_is_least, k_is_least := k_is_least, b_is_least := b_is_least,
    a_falling := _, d_falling := _, F_falling := F_falling, g_falling := PySem.W.mg_of X G a_falling, k_falling := k_falling, b_falling := b_falling,
    a_fallen := _, d_fallen := _, F_fallen := F_fallen, g_fallen := PySem.W.mg_of X G a_fallen, k_fallen := k_fallen, b_fallen := b_fallen,
    a__law_word := _, d__law_word := _, F__law_word := F__law_word, g__law_word := PySem.W.mg_of X G a__law_word, k__law_word := k__law_word, b__law_word := b__law_word,
    a__law_rows_drawn := _, d__law_rows_drawn := _, F__law_rows_drawn := F__law_rows_drawn, g__law_rows_drawn := PySem.W.mg_of X G a__law_rows_drawn, k__law_rows_drawn := k__law_rows_drawn, b__law_rows_drawn := b__law_rows_drawn,
    a__law_rank := _, d__law_rank := _, F__law_rank := F__law_rank, g__law_rank := PySem.W.mg_of X G a__law_rank, k__law_rank := k__law_rank, b__law_rank := b__law_rank,
    a__law_told := _, d__law_told := _, F__law_told := F__law_told, g__law_told := PySem.W.mg_of X G a__law_told, k__law_told := k__law_told, b__law_told := b__law_told,
    a_check_count := _, d_check_count := _, F_check_count := F_check_count, g_check_count := PySem.W.mg_of X G a_check_count, k_check_count := k_check_count, b_check_count := b_check_count,
    a_divisor := _, d_divisor := _, F_divisor := F_divisor, g_divisor := PySem.W.mg_of X G a_divisor, k_divisor := k_divisor, b_divisor := b_divisor,
    a_is_number := _, d_is_number := _, F_is_number := F_is_number, g_is_number := PySem.W.mg_of X G a_is_number, k_is_number := k_is_number, b_is_number := b_is_number,
    a_is_term := _, d_is_term := _, F_is_term := F_is_term, g_is_term := PySem.W.mg_of X G a_is_term, k_is_term := k_is_term, b_is_term := b_is_term,
    a_rank := _, d_rank := _, F_rank := F_rank, g_rank := PySem.W.mg_of X G a_rank, k_rank := k_rank, b_rank := b_rank,
    a_check_sum := _, d_check_sum := _, F_check_sum := F_check_sum, g_check_sum := PySem.W.mg_of X G a_check_sum, k_check_sum := k_check_sum, b_check_sum := b_check_sum,
    a_gathered := _, d_gathered := _, F_gathered := F_gathered, g_gathered := PySem.W.mg_of X G a_gathered, k_gathered := k_gathered, b_gathered := b_gathered,
    a_lowest := _, d_lowest := _, F_lowest := F_lowest, g_lowest := PySem.W.mg_of X G a_lowest, k_lowest := k_lowest, b_lowest := b_lowest,
    a_plus := _, d_plus := _, F_plus := F_plus, g_plus := PySem.W.mg_of X G a_plus, k_plus := k_plus, b_plus := b_plus,
    a_put_to := _, d_put_to := _, F_put_to := F_put_to, g_put_to := PySem.W.mg_of X G a_put_to, k_put_to := k_put_to, b_put_to := b_put_to,
    a_times := _, d_times := _, F_times := F_times, g_times := PySem.W.mg_of X G a_times, k_times := k_times, b_times := b_times,
    a_joined_to := _, d_joined_to := _, F_joined_to := F_joined_to, g_joined_to := PySem.W.mg_of X G a_joined_to, k_joined_to := k_joined_to, b_joined_to := b_joined_to,
    a_told_sum := _, d_told_sum := _, F_told_sum := F_told_sum, g_told_sum := PySem.W.mg_of X G a_told_sum, k_told_sum := k_told_sum, b_told_sum := b_told_sum,
    a_contrary := _, d_contrary := _, F_contrary := F_contrary, g_contrary := PySem.W.mg_of X G a_contrary, k_contrary := k_contrary, b_contrary := b_contrary,
    a_said_by := _, d_said_by := _, F_said_by := F_said_by, g_said_by := PySem.W.mg_of X G a_said_by, k_said_by := k_said_by, b_said_by := b_said_by,
    a_tree_by := _, d_tree_by := _, F_tree_by := F_tree_by, g_tree_by := PySem.W.mg_of X G a_tree_by, k_tree_by := k_tree_by, b_tree_by := b_tree_by,
    a_joined_trees := _, d_joined_trees := _, F_joined_trees := F_joined_trees, g_joined_trees := PySem.W.mg_of X G a_joined_trees, k_joined_trees := k_joined_trees, b_joined_trees := b_joined_trees,
    a_told_by_least := _, d_told_by_least := _, F_told_by_least := F_told_by_least, g_told_by_least := PySem.W.mg_of X G a_told_by_least, k_told_by_least := k_told_by_least, b_told_by_least := b_told_by_least,
    a__law_at := _, d__law_at := _, F__law_at := F__law_at, g__law_at := PySem.W.mg_of X G a__law_at, k__law_at := k__law_at, b__law_at := b__law_at,
    a__law_number := _, d__law_number := _, F__law_number := F__law_number, g__law_number := PySem.W.mg_of X G a__law_number, k__law_number := k__law_number, b__law_number := b__law_number,
    a__law_sum := _, d__law_sum := _, F__law_sum := F__law_sum, g__law_sum := PySem.W.mg_of X G a__law_sum, k__law_sum := k__law_sum, b__law_sum := b__law_sum,
    a__law_plus := _, d__law_plus := _, F__law_plus := F__law_plus, g__law_plus := PySem.W.mg_of X G a__law_plus, k__law_plus := k__law_plus, b__law_plus := b__law_plus,
    a__law_put := _, d__law_put := _, F__law_put := F__law_put, g__law_put := PySem.W.mg_of X G a__law_put, k__law_put := k__law_put, b__law_put := b__law_put,
    a__law_by := _, d__law_by := _, F__law_by := F__law_by, g__law_by := PySem.W.mg_of X G a__law_by, k__law_by := k__law_by, b__law_by := b__law_by,
    a__law_joined := _, d__law_joined := _, F__law_joined := F__law_joined, g__law_joined := PySem.W.mg_of X G a__law_joined, k__law_joined := k__law_joined, b__law_joined := b__law_joined,
    a__law_not := _, d__law_not := _, F__law_not := F__law_not, g__law_not := PySem.W.mg_of X G a__law_not, k__law_not := k__law_not, b__law_not := b__law_not,
    a__law_less := _, d__law_less := _, F__law_less := F__law_less, g__law_less := PySem.W.mg_of X G a__law_less, k__law_less := k__law_less, b__law_less := b__law_less,
    a__law_said := _, d__law_said := _, F__law_said := F__law_said, g__law_said := PySem.W.mg_of X G a__law_said, k__law_said := k__law_said, b__law_said := b__law_said,
    a_least_tree := _, d_least_tree := _, F_least_tree := F_least_tree, g_least_tree := PySem.W.mg_of X G a_least_tree, k_least_tree := k_least_tree, b_least_tree := b_least_tree,
    a__law_row_sum := _, d__law_row_sum := _, F__law_row_sum := F__law_row_sum, g__law_row_sum := PySem.W.mg_of X G a__law_row_sum, k__law_row_sum := k__law_row_sum, b__law_row_sum := b__law_row_sum,
    a__law_all := _, d__law_all := _, F__law_all := F__law_all, g__law_all := PySem.W.mg_of X G a__law_all, k__law_all := k__law_all, b__law_all := b__law_all,
    a__law_whole_word := _, d__law_whole_word := _, F__law_whole_word := F__law_whole_word, g__law_whole_word := PySem.W.mg_of X G a__law_whole_word, k__law_whole_word := k__law_whole_word, b__law_whole_word := b__law_whole_word,
    a__law_is_least := _, d__law_is_least := _, F__law_is_least := F__law_is_least, g__law_is_least := PySem.W.mg_of X G a__law_is_least, k__law_is_least := k__law_is_least, b__law_is_least := b__law_is_least,
    a__law_is_row := _, d__law_is_row := _, F__law_is_row := F__law_is_row, g__law_is_row := PySem.W.mg_of X G a__law_is_row, k__law_is_row := k__law_is_row, b__law_is_row := b__law_is_row,
    a__law_form_right := _, d__law_form_right := _, F__law_form_right := F__law_form_right, g__law_form_right := PySem.W.mg_of X G a__law_form_right, k__law_form_right := k__law_form_right, b__law_form_right := b__law_form_right,
    a__law_whole_rank := _, d__law_whole_rank := _, F__law_whole_rank := F__law_whole_rank, g__law_whole_rank := PySem.W.mg_of X G a__law_whole_rank, k__law_whole_rank := k__law_whole_rank, b__law_whole_rank := b__law_whole_rank,
    a_law := _, d_law := _, F_law := F_law, g_law := PySem.W.mg_of X G a_law, k_law := k_law, b_law := b_law,
    z_abs := PySem.W.mg_none_of X G z_abs,
    z_bool := PySem.W.mg_none_of X G z_bool,
    z_dict := PySem.W.mg_none_of X G z_dict,
    z_enumerate := PySem.W.mg_none_of X G z_enumerate,
    z_int := PySem.W.mg_none_of X G z_int,
    z_isinstance := PySem.W.mg_none_of X G z_isinstance,
    z_len := PySem.W.mg_none_of X G z_len,
    z_list := PySem.W.mg_none_of X G z_list,
    z_max := PySem.W.mg_none_of X G z_max,
    z_min := PySem.W.mg_none_of X G z_min,
    z_range := PySem.W.mg_none_of X G z_range,
    z_sorted := PySem.W.mg_none_of X G z_sorted,
    z_tuple := PySem.W.mg_none_of X G z_tuple,
    c_MOST := y_MOST,
    c_MOST_LETTERS := y_MOST_LETTERS,
    c_NOUGHT := y_NOUGHT,
    c_ONE := y_ONE }).imp specL_imp⟩
theorem facts {w : World} {K : PySem.W.Frag} {h : Heap} {mg : Str → Option Value} {fa : Addr} (X : K.In h) (G : h.Ns mainGlobals mg) (hfa : mg "law" = some (.ref fa)) (c : SaysS fk fns K) :
    ∃ fd : FuncData, (∀ (s : Shared) (v : Value), BindsTo s fd ⟨[v], []⟩ [("_law_script", v)]) ∧ ∀ base : Heap, K.In base → base.Ns mainGlobals mg → FnOk PySem.Challenge.rw_swaprest_k55_sums_told_by_least.prog w K mg base (L2.CX PySem.Challenge.rw_swaprest_k55_sums_told_by_least.prog w) 50 fa fd ["_law_script"] (specL K m_law) := by
  have hf := c.fkt
  unfold fk at hf
  simp only [Bool.and_eq_true] at hf
  obtain ⟨q0, q1, q2, q3, q4⟩ := hf
  obtain ⟨h_seer, h_a__law_mixed, h_k__law_mixed, h_a__law_purse, h_k__law_purse, h_a__law_take, h_k__law_take, h_a__law_low, h_k__law_low, h_a__law_few, h_k__law_few, h_a_is_whole, h_k_is_whole, h_a_is_word, h_k_is_word, h_a_check_word, h_k_check_word, h_a_is_least, h_k_is_least, h_a_falling, h_k_falling, h_a_fallen, h_k_fallen, h_a__law_word, h_k__law_word, _⟩ := (of_decide_eq_true q0 : P0 K)
  obtain ⟨h_a__law_rows_drawn, h_k__law_rows_drawn, h_a__law_rank, h_k__law_rank, h_a__law_told, h_k__law_told, h_a_check_count, h_k_check_count, h_a_divisor, h_k_divisor, h_a_is_number, h_k_is_number, h_a_is_term, h_k_is_term, h_a_rank, h_k_rank, h_a_check_sum, h_k_check_sum, h_a_gathered, h_k_gathered, h_a_lowest, h_k_lowest, h_a_plus, h_k_plus, h_a_put_to, _⟩ := (of_decide_eq_true q1 : P1 K)
  obtain ⟨h_k_put_to, h_a_times, h_k_times, h_a_joined_to, h_k_joined_to, h_a_told_sum, h_k_told_sum, h_a_contrary, h_k_contrary, h_a_said_by, h_k_said_by, h_a_tree_by, h_k_tree_by, h_a_joined_trees, h_k_joined_trees, h_a_told_by_least, h_k_told_by_least, h_a__law_at, h_k__law_at, h_a__law_number, h_k__law_number, h_a__law_sum, h_k__law_sum, h_a__law_plus, h_k__law_plus, _⟩ := (of_decide_eq_true q2 : P2 K)
  obtain ⟨h_a__law_put, h_k__law_put, h_a__law_by, h_k__law_by, h_a__law_joined, h_k__law_joined, h_a__law_not, h_k__law_not, h_a__law_less, h_k__law_less, h_a__law_said, h_k__law_said, h_a_least_tree, h_k_least_tree, h_a__law_row_sum, h_k__law_row_sum, h_a__law_all, h_k__law_all, h_a__law_whole_word, h_k__law_whole_word, h_a__law_is_least, h_k__law_is_least, h_a__law_is_row, h_k__law_is_row, h_a__law_form_right, _⟩ := (of_decide_eq_true q3 : P3 K)
  obtain ⟨h_k__law_form_right, h_a__law_whole_rank, h_k__law_whole_rank, h_a_law, h_k_law, h_z_abs, h_z_bool, h_z_dict, h_z_enumerate, h_z_int, h_z_isinstance, h_z_len, h_z_list, h_z_max, h_z_min, h_z_range, h_z_sorted, h_z_tuple, h_y_MOST, h_y_MOST_LETTERS, h_y_NOUGHT__a, h_y_NOUGHT, h_y_ONE__a, h_y_ONE, _⟩ := (of_decide_eq_true q4 : P4 K)
  obtain ⟨_, _, _, _, _, _, _, _, _, l__law_mixed, c__law_mixed⟩ := c.def_ 0 (d := D__law_mixed) rfl
  obtain ⟨_, _, _, _, _, _, _, _, _, l__law_purse, c__law_purse⟩ := c.def_ 1 (d := D__law_purse) rfl
  obtain ⟨_, _, _, _, _, _, _, _, _, l__law_take, c__law_take⟩ := c.def_ 2 (d := D__law_take) rfl
  obtain ⟨_, _, _, _, _, _, _, _, _, l__law_low, c__law_low⟩ := c.def_ 3 (d := D__law_low) rfl
  obtain ⟨_, _, _, _, _, _, _, _, _, l__law_few, c__law_few⟩ := c.def_ 4 (d := D__law_few) rfl
  obtain ⟨_, _, _, _, _, _, _, _, _, l_is_whole, c_is_whole⟩ := c.def_ 5 (d := D_is_whole) rfl
  obtain ⟨_, _, _, _, _, _, _, _, _, l_is_word, c_is_word⟩ := c.def_ 6 (d := D_is_word) rfl
  obtain ⟨_, _, _, _, _, _, _, _, _, l_check_word, c_check_word⟩ := c.def_ 7 (d := D_check_word) rfl
  obtain ⟨_, _, _, _, _, _, _, _, _, l_is_least, c_is_least⟩ := c.def_ 8 (d := D_is_least) rfl
  obtain ⟨_, _, _, _, _, _, _, _, _, l_falling, c_falling⟩ := c.def_ 9 (d := D_falling) rfl
  obtain ⟨_, _, _, _, _, _, _, _, _, l_fallen, c_fallen⟩ := c.def_ 10 (d := D_fallen) rfl
  obtain ⟨_, _, _, _, _, _, _, _, _, l__law_word, c__law_word⟩ := c.def_ 11 (d := D__law_word) rfl
  obtain ⟨_, _, _, _, _, _, _, _, _, l__law_rows_drawn, c__law_rows_drawn⟩ := c.def_ 12 (d := D__law_rows_drawn) rfl
  obtain ⟨_, _, _, _, _, _, _, _, _, l__law_rank, c__law_rank⟩ := c.def_ 13 (d := D__law_rank) rfl
  obtain ⟨_, _, _, _, _, _, _, _, _, l__law_told, c__law_told⟩ := c.def_ 14 (d := D__law_told) rfl
  obtain ⟨_, _, _, _, _, _, _, _, _, l_check_count, c_check_count⟩ := c.def_ 15 (d := D_check_count) rfl
  obtain ⟨_, _, _, _, _, _, _, _, _, l_divisor, c_divisor⟩ := c.def_ 16 (d := D_divisor) rfl
  obtain ⟨_, _, _, _, _, _, _, _, _, l_is_number, c_is_number⟩ := c.def_ 17 (d := D_is_number) rfl
  obtain ⟨_, _, _, _, _, _, _, _, _, l_is_term, c_is_term⟩ := c.def_ 18 (d := D_is_term) rfl
  obtain ⟨_, _, _, _, _, _, _, _, _, l_rank, c_rank⟩ := c.def_ 19 (d := D_rank) rfl
  obtain ⟨_, _, _, _, _, _, _, _, _, l_check_sum, c_check_sum⟩ := c.def_ 20 (d := D_check_sum) rfl
  obtain ⟨_, _, _, _, _, _, _, _, _, l_gathered, c_gathered⟩ := c.def_ 21 (d := D_gathered) rfl
  obtain ⟨_, _, _, _, _, _, _, _, _, l_lowest, c_lowest⟩ := c.def_ 22 (d := D_lowest) rfl
  obtain ⟨_, _, _, _, _, _, _, _, _, l_plus, c_plus⟩ := c.def_ 23 (d := D_plus) rfl
  obtain ⟨_, _, _, _, _, _, _, _, _, l_put_to, c_put_to⟩ := c.def_ 24 (d := D_put_to) rfl
  obtain ⟨_, _, _, _, _, _, _, _, _, l_times, c_times⟩ := c.def_ 25 (d := D_times) rfl
  obtain ⟨_, _, _, _, _, _, _, _, _, l_joined_to, c_joined_to⟩ := c.def_ 26 (d := D_joined_to) rfl
  obtain ⟨_, _, _, _, _, _, _, _, _, l_told_sum, c_told_sum⟩ := c.def_ 27 (d := D_told_sum) rfl
  obtain ⟨_, _, _, _, _, _, _, _, _, l_contrary, c_contrary⟩ := c.def_ 28 (d := D_contrary) rfl
  obtain ⟨_, _, _, _, _, _, _, _, _, l_said_by, c_said_by⟩ := c.def_ 29 (d := D_said_by) rfl
  obtain ⟨_, _, _, _, _, _, _, _, _, l_tree_by, c_tree_by⟩ := c.def_ 30 (d := D_tree_by) rfl
  obtain ⟨_, _, _, _, _, _, _, _, _, l_joined_trees, c_joined_trees⟩ := c.def_ 31 (d := D_joined_trees) rfl
  obtain ⟨_, _, _, _, _, _, _, _, _, l_told_by_least, c_told_by_least⟩ := c.def_ 32 (d := D_told_by_least) rfl
  obtain ⟨_, _, _, _, _, _, _, _, _, l__law_at, c__law_at⟩ := c.def_ 33 (d := D__law_at) rfl
  obtain ⟨_, _, _, _, _, _, _, _, _, l__law_number, c__law_number⟩ := c.def_ 34 (d := D__law_number) rfl
  obtain ⟨_, _, _, _, _, _, _, _, _, l__law_sum, c__law_sum⟩ := c.def_ 35 (d := D__law_sum) rfl
  obtain ⟨_, _, _, _, _, _, _, _, _, l__law_plus, c__law_plus⟩ := c.def_ 36 (d := D__law_plus) rfl
  obtain ⟨_, _, _, _, _, _, _, _, _, l__law_put, c__law_put⟩ := c.def_ 37 (d := D__law_put) rfl
  obtain ⟨_, _, _, _, _, _, _, _, _, l__law_by, c__law_by⟩ := c.def_ 38 (d := D__law_by) rfl
  obtain ⟨_, _, _, _, _, _, _, _, _, l__law_joined, c__law_joined⟩ := c.def_ 39 (d := D__law_joined) rfl
  obtain ⟨_, _, _, _, _, _, _, _, _, l__law_not, c__law_not⟩ := c.def_ 40 (d := D__law_not) rfl
  obtain ⟨_, _, _, _, _, _, _, _, _, l__law_less, c__law_less⟩ := c.def_ 41 (d := D__law_less) rfl
  obtain ⟨_, _, _, _, _, _, _, _, _, l__law_said, c__law_said⟩ := c.def_ 42 (d := D__law_said) rfl
  obtain ⟨_, _, _, _, _, _, _, _, _, l_least_tree, c_least_tree⟩ := c.def_ 43 (d := D_least_tree) rfl
  obtain ⟨_, _, _, _, _, _, _, _, _, l__law_row_sum, c__law_row_sum⟩ := c.def_ 44 (d := D__law_row_sum) rfl
  obtain ⟨_, _, _, _, _, _, _, _, _, l__law_all, c__law_all⟩ := c.def_ 45 (d := D__law_all) rfl
  obtain ⟨_, _, _, _, _, _, _, _, _, l__law_whole_word, c__law_whole_word⟩ := c.def_ 46 (d := D__law_whole_word) rfl
  obtain ⟨_, _, _, _, _, _, _, _, _, l__law_is_least, c__law_is_least⟩ := c.def_ 47 (d := D__law_is_least) rfl
  obtain ⟨_, _, _, _, _, _, _, _, _, l__law_is_row, c__law_is_row⟩ := c.def_ 48 (d := D__law_is_row) rfl
  obtain ⟨_, _, _, _, _, _, _, _, _, l__law_form_right, c__law_form_right⟩ := c.def_ 49 (d := D__law_form_right) rfl
  obtain ⟨_, _, _, _, _, _, _, _, _, l__law_whole_rank, c__law_whole_rank⟩ := c.def_ 50 (d := D__law_whole_rank) rfl
  obtain ⟨_, _, _, _, _, _, _, _, _, l_law, c_law⟩ := c.def_ 51 (d := D_law) rfl
  exact all_mk (l := PySem.Challenge.rw_swaprest_k55_sums_told_by_least) X G hfa rfl (h_seer) (h_a__law_mixed) l__law_mixed c__law_mixed (h_k__law_mixed) (h_a__law_purse) l__law_purse c__law_purse (h_k__law_purse) (h_a__law_take) l__law_take c__law_take (h_k__law_take) (h_a__law_low) l__law_low c__law_low (h_k__law_low) (h_a__law_few) l__law_few c__law_few (h_k__law_few) (h_a_is_whole) l_is_whole c_is_whole (h_k_is_whole) (h_a_is_word) l_is_word c_is_word (h_k_is_word) (h_a_check_word) l_check_word c_check_word (h_k_check_word) (h_a_is_least) l_is_least c_is_least (h_k_is_least) (h_a_falling) l_falling c_falling (h_k_falling) (h_a_fallen) l_fallen c_fallen (h_k_fallen) (h_a__law_word) l__law_word c__law_word (h_k__law_word) (h_a__law_rows_drawn) l__law_rows_drawn c__law_rows_drawn (h_k__law_rows_drawn) (h_a__law_rank) l__law_rank c__law_rank (h_k__law_rank) (h_a__law_told) l__law_told c__law_told (h_k__law_told) (h_a_check_count) l_check_count c_check_count (h_k_check_count) (h_a_divisor) l_divisor c_divisor (h_k_divisor) (h_a_is_number) l_is_number c_is_number (h_k_is_number) (h_a_is_term) l_is_term c_is_term (h_k_is_term) (h_a_rank) l_rank c_rank (h_k_rank) (h_a_check_sum) l_check_sum c_check_sum (h_k_check_sum) (h_a_gathered) l_gathered c_gathered (h_k_gathered) (h_a_lowest) l_lowest c_lowest (h_k_lowest) (h_a_plus) l_plus c_plus (h_k_plus) (h_a_put_to) l_put_to c_put_to (h_k_put_to) (h_a_times) l_times c_times (h_k_times) (h_a_joined_to) l_joined_to c_joined_to (h_k_joined_to) (h_a_told_sum) l_told_sum c_told_sum (h_k_told_sum) (h_a_contrary) l_contrary c_contrary (h_k_contrary) (h_a_said_by) l_said_by c_said_by (h_k_said_by) (h_a_tree_by) l_tree_by c_tree_by (h_k_tree_by) (h_a_joined_trees) l_joined_trees c_joined_trees (h_k_joined_trees) (h_a_told_by_least) l_told_by_least c_told_by_least (h_k_told_by_least) (h_a__law_at) l__law_at c__law_at (h_k__law_at) (h_a__law_number) l__law_number c__law_number (h_k__law_number) (h_a__law_sum) l__law_sum c__law_sum (h_k__law_sum) (h_a__law_plus) l__law_plus c__law_plus (h_k__law_plus) (h_a__law_put) l__law_put c__law_put (h_k__law_put) (h_a__law_by) l__law_by c__law_by (h_k__law_by) (h_a__law_joined) l__law_joined c__law_joined (h_k__law_joined) (h_a__law_not) l__law_not c__law_not (h_k__law_not) (h_a__law_less) l__law_less c__law_less (h_k__law_less) (h_a__law_said) l__law_said c__law_said (h_k__law_said) (h_a_least_tree) l_least_tree c_least_tree (h_k_least_tree) (h_a__law_row_sum) l__law_row_sum c__law_row_sum (h_k__law_row_sum) (h_a__law_all) l__law_all c__law_all (h_k__law_all) (h_a__law_whole_word) l__law_whole_word c__law_whole_word (h_k__law_whole_word) (h_a__law_is_least) l__law_is_least c__law_is_least (h_k__law_is_least) (h_a__law_is_row) l__law_is_row c__law_is_row (h_k__law_is_row) (h_a__law_form_right) l__law_form_right c__law_form_right (h_k__law_form_right) (h_a__law_whole_rank) l__law_whole_rank c__law_whole_rank (h_k__law_whole_rank) (h_a_law) l_law c_law (h_k_law) (h_z_abs) (h_z_bool) (h_z_dict) (h_z_enumerate) (h_z_int) (h_z_isinstance) (h_z_len) (h_z_list) (h_z_max) (h_z_min) (h_z_range) (h_z_sorted) (h_z_tuple) (konst_intB X G h_y_MOST) (konst_intB X G h_y_MOST_LETTERS) (konst_tupB X G h_y_NOUGHT__a h_y_NOUGHT rfl (by show 2 ≤ sizeLine; decide)) (konst_tupB X G h_y_ONE__a h_y_ONE rfl (by show 2 ≤ sizeLine; decide))
end Lw
open PySem PySem.W PySem.Calls PyProof.Rows
set_option maxHeartbeats 0 in
theorem PySem.Challenge.cw_swaprest_k55_sums_told_by_least_holds : PySem.Challenge.rw_swaprest_k55_sums_told_by_least.Holds := by
  w_on; o_law
  refine HandSHeadRun.head_any (r := (OpenLaw.row PySem.Challenge.rw_swaprest_k55_sums_told_by_least)) (q := view (OpenLaw.row PySem.Challenge.rw_swaprest_k55_sums_told_by_least).prog [68]) (H := Lw.hk) (ob := Lw.ob) (M := 20000) (loose := Lw.nms) (d := HandSHeadRun.topDef (OpenLaw.row PySem.Challenge.rw_swaprest_k55_sums_told_by_least).prog 68) (kwd := []) Lw.ob_eq
    (by kernel_rfl) (fun s => by kernel_rfl) Lw.run (by kernel_rfl) (by kernel_rfl) (by kernel_rfl) (by rfl) (by first | assumption | decide +kernel) (by decide +kernel) ⟨rfl, rfl, rfl, rfl, rfl, by decide +kernel⟩ ?hw ?hc
  case hw => w_witness2
  case hc =>
    refine LamX.walk_ofTsE (l := PySem.Challenge.rw_swaprest_k55_sums_told_by_least) (n := 63) (k := 50) (x := "_law_script") (CX := fun w => L2.CX PySem.Challenge.rw_swaprest_k55_sums_told_by_least.prog w) rfl (by decide) (by kernel_rfl) ⟨rfl, by decide, by decide⟩ ?F (fun _ _ _ _ _ h => SW.cx_false h)
    intro w mg fa h Y G hmg0
    obtain ⟨K, KX, c⟩ := Y
    have hmg : mg ("law" : PySem.Str) = some (.ref fa) := by
      have e : (HandSHeadRun.topDef (OpenLaw.row PySem.Challenge.rw_swaprest_k55_sums_told_by_least).prog 68).name = ("law" : PySem.Str) := by kernel_rfl
      rw [← e]
      exact hmg0
    obtain ⟨fd, hb, hF⟩ := Lw.facts (w := w) KX G hmg c
    exact ⟨K, KX, fd, [], SW.specL K Lw.m_law, (fun _ h => nomatch h), (fun _ h => nomatch h), (fun _ h => nomatch h), hb, fun H a ns hl _ _ hS => SW.law_specL Lw.law_true hl hS, fun base hK hN _ => hF base hK hN⟩


