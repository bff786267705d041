import PyProof.Rows.All
import HandS.Head0
import HandS.Head1
import HandS.Head2
import HandS.HeadEnd
import HandS.HeadHook1
import HandS.HeadHook2
import HandS.HeadWalk
import HandS.Words
import HandS.Exc
import HandS.ExcField
import PySem.Challenge.RW_swaprest_k58_grown_and_logged_sums
import HandS.ForMost
import HandS.ForExc
import HandS.IsInst
import HandS.Flow
import HandS.Wide
import HandS.Deep
import HandS.TupAny
import HandS.TupMul
import HandS.CallSlots
import KE.DataCmp
import KE.KDictKeyed
import HandS.NoneIn
import HandS.Zip
import HandS.More
import HandS.HeadHook4
import HandS.ExcIs
import HandS.ExcValue
import HandS.Iter
import HandS.TupLen
import HandS.SortKw
import KE.SortKeyHeap
import KE.KDictCopyH
import KE.KDictSum
import HandS.Keys
import KE.DataMinMax
import KE.SortData
import KE.KDictPairs
import KE.KRevSl
import PyProof.ExcBaseAll.ValueError
import HandS.ExcInit
import KE.KExcIs
import KE.KDictDisplayH
import KE.GoesEnum
import KE.KEqDict
import PyProof.ReprRoads
import PyProof.Rows.RegStrFacts
set_option Elab.async false
set_option linter.all false
set_option maxRecDepth 100000
/-! SW0: the program's top by one run of the kernel; the facts that a law's walk leans on, read by a hook. -/
namespace SW
open PySem PySem.Spec PyProof.Rows L2
def vBase : List Value := [.type "ValueError", .type "Exception", .type "BaseException", .type "object"]
/-! the module's facts that a division of great ints leans on -/
def strKeysB (es : Array DictEntry) : Bool := es.toList.all fun e => match e.key with
  | .str _ _ => true
  | _ => false
def noneAt (es : Array DictEntry) (x : Str) : Bool := (nsFind es x).isNone
def seerB (K : PySem.W.Frag) : Bool :=
  (match K.lookup cStatics with
  | some ⟨_, _, .dict es _, _⟩ => strKeysB es && (noneAt es "sys.audit-hooks" && noneAt es "sys.dict")
  | _ => false) &&
  ((match K.lookup sysModules with
  | some ⟨_, _, .dict es _, _⟩ => strKeysB es && noneAt es "_pylong"
  | _ => false) &&
  (match PySem.W.nsIn K mainGlobals "__builtins__" with
  | some (some (.ref bm)) => (match K.lookup bm with
    | some ⟨.type x, some d, _, _⟩ => (x == "module") && (d == builtinsNs)
    | _ => false)
  | _ => false))
abbrev AlS : Type := Bool × List He.FnV
def obsS (fk : PySem.W.Frag → Bool) (fn : List He.FnD) (K : PySem.W.Frag) : AlS := (fk K && fn.all fun d => (He.Fa.code d.at_ d.qual).ok K, fn.map fun d => He.fnObs K d.at_)
def valS (fn : List He.FnD) : AlS := (true, fn.map He.FnD.val)
def SaysS (fk : PySem.W.Frag → Bool) (fn : List He.FnD) (K : PySem.W.Frag) : Prop := obsS fk fn K = valS fn
/-! what the module's names reach: the defs, their codes, the classes' own names, their methods, these' codes (no dup is dropped: the first counts) -/
def refsL (o : Obj) : List Addr := match o.data with
  | .dict es _ => es.toList.flatMap fun e => He.refV e.val
  | .func fd => He.refV fd.code
  | .cls cd => [cd.ns]
  | _ => []
def nextL (g : Addr → Option Obj) (as : List Addr) : List Addr := as.flatMap fun a => match g a with
  | some o => refsL o
  | none => []
def asL (g : Addr → Option Obj) : List Addr :=
  let l1 := nextL g [mainGlobals]
  let l2 := nextL g l1
  let l3 := nextL g l2
  mainGlobals :: (l1 ++ (l2 ++ (l3 ++ nextL g l3)))
def obsSG (n : Nat) (fk : PySem.W.Frag → Bool) (fn : List He.FnD) (g : Addr → Option Obj) : AlS := obsS fk fn (He.frG g (cStatics :: sysModules :: asL g))
def hookS (n : Nat) (fk : PySem.W.Frag → Bool) (fn : List He.FnD) : PySem.W.Hook where
  α := AlS
  obs := fun s => obsSG n fk fn s.heap.get?
  val := fun _ => valS fn
  says := fun _ h => ∃ K : PySem.W.Frag, K.In h ∧ SaysS fk fn K
  of := fun _ _ e => ⟨_, He.frG_in, e⟩
  keeps := fun _ _ _ ⟨K, hK, c⟩ k => ⟨K, PySem.W.Frag.In.keeps hK k, c⟩
theorem obsSG_eq {n : Nat} {fk : PySem.W.Frag → Bool} {fn : List He.FnD} {g : Addr → Option Obj} {s : Shared} (h : ∀ a, g a = s.heap.get? a) : obsSG n fk fn g = (hookS n fk fn).obs s := by
  have e : g = s.heap.get? := funext h
  rw [e] <;> rfl
section
variable {fk : PySem.W.Frag → Bool} {fn : List He.FnD} {K : PySem.W.Frag} {h : Heap} {mg : Str → Option Value}
theorem SaysS.fkt (c : SaysS fk fn K) : fk K = true :=
  (He.ba (show (fk K && fn.all fun d => (He.Fa.code d.at_ d.qual).ok K) = true from congrArg (fun z : AlS => z.1) c)).1
theorem SaysS.def_ (c : SaysS fk fn K) (i : Nat) {d : He.FnD} (h : fn[i]? = some d := by rfl) :
    ∃ oc od osl kV doc pm an cdv ct, K.lookup (He.fAd K d.at_) = some ⟨oc, od, .func (PySem.W.fnOf d.name d.qual d.params d.body d.scope .none kV doc pm an cdv ct), osl⟩ ∧ PySem.W.codeIn K cdv d.qual = true := by
  have c2 := (He.ba (show (fk K && fn.all fun d => (He.Fa.code d.at_ d.qual).ok K) = true from congrArg (fun z : AlS => z.1) c)).2
  have e : fn.map (fun d => He.fnObs K d.at_) = fn.map He.FnD.val := congrArg (fun z : AlS => z.2) c
  have e2 : (fn.map fun d => He.fnObs K d.at_)[i]? = (fn.map He.FnD.val)[i]? := by rw [e]
  rw [List.getElem?_map, List.getElem?_map, h] at e2
  exact He.fn_ok (Option.some.inj e2) (List.all_eq_true.mp c2 d (List.mem_of_getElem? h))
end
/-! the run's equation in parts: each a run of its own, the facts shared out -/
section
open HandSHeadRun PySem.W
end
end SW

set_option maxRecDepth 100000
set_option maxHeartbeats 0
namespace Lw
open PySem PySem.Spec PyProof.Rows L2 SW
def topS (i : Nat) : Stmt := PySem.Challenge.pw_swaprest_k58_grown_and_logged_sums.main.body.getD i (.Pass ⟨0, 0, 0, 0⟩)
abbrev s__law_mixed : Stmt := topS 37
abbrev s__law_purse : Stmt := topS 38
abbrev s__law_rank : Stmt := topS 45
abbrev s__law_told : Stmt := topS 46
abbrev s__law_take : Stmt := topS 39
abbrev s__law_low : Stmt := topS 41
abbrev s__law_number : Stmt := topS 44
abbrev s__law_drawn : Stmt := topS 52
abbrev s__law_at : Stmt := topS 40
abbrev s__law_plus : Stmt := topS 42
abbrev s__law_put : Stmt := topS 47
abbrev s__law_by : Stmt := topS 43
abbrev s__law_joined : Stmt := topS 48
abbrev s__law_powers : Stmt := topS 49
abbrev s__law_grown : Stmt := topS 50
abbrev s__law_logged : Stmt := topS 51
abbrev s_is_whole : Stmt := topS 10
abbrev s_check_count : Stmt := topS 28
abbrev s_is_word : Stmt := topS 19
abbrev s_divisor : Stmt := topS 11
abbrev s_is_number : Stmt := topS 13
abbrev s_is_term : Stmt := topS 20
abbrev s_rank : Stmt := topS 21
abbrev s_check_sum : Stmt := topS 22
abbrev s_told_sum : Stmt := topS 24
abbrev s_lowest : Stmt := topS 12
abbrev s_plus : Stmt := topS 15
abbrev s_put_to : Stmt := topS 25
abbrev s_times : Stmt := topS 16
abbrev s_joined_short : Stmt := topS 30
abbrev s_added_up : Stmt := topS 31
abbrev s_fraction : Stmt := topS 14
abbrev s_grown_short : Stmt := topS 32
abbrev s_gathered : Stmt := topS 23
abbrev s_grown : Stmt := topS 34
abbrev s_logged_short : Stmt := topS 33
abbrev s_logged : Stmt := topS 35
abbrev s_law : Stmt := topS 53
def D__law_mixed : He.FnD := ⟨("_law_mixed", none), "_law_mixed", "_law_mixed", defArgs s__law_mixed, defBody s__law_mixed, defScope s__law_mixed⟩
def D__law_purse : He.FnD := ⟨("_law_purse", none), "_law_purse", "_law_purse", defArgs s__law_purse, defBody s__law_purse, defScope s__law_purse⟩
def D__law_rank : He.FnD := ⟨("_law_rank", none), "_law_rank", "_law_rank", defArgs s__law_rank, defBody s__law_rank, defScope s__law_rank⟩
def D__law_told : He.FnD := ⟨("_law_told", none), "_law_told", "_law_told", defArgs s__law_told, defBody s__law_told, defScope s__law_told⟩
def D__law_take : He.FnD := ⟨("_law_take", none), "_law_take", "_law_take", defArgs s__law_take, defBody s__law_take, defScope s__law_take⟩
def D__law_low : He.FnD := ⟨("_law_low", none), "_law_low", "_law_low", defArgs s__law_low, defBody s__law_low, defScope s__law_low⟩
def D__law_number : He.FnD := ⟨("_law_number", none), "_law_number", "_law_number", defArgs s__law_number, defBody s__law_number, defScope s__law_number⟩
def D__law_drawn : He.FnD := ⟨("_law_drawn", none), "_law_drawn", "_law_drawn", defArgs s__law_drawn, defBody s__law_drawn, defScope s__law_drawn⟩
def D__law_at : He.FnD := ⟨("_law_at", none), "_law_at", "_law_at", defArgs s__law_at, defBody s__law_at, defScope s__law_at⟩
def D__law_plus : He.FnD := ⟨("_law_plus", none), "_law_plus", "_law_plus", defArgs s__law_plus, defBody s__law_plus, defScope s__law_plus⟩
def D__law_put : He.FnD := ⟨("_law_put", none), "_law_put", "_law_put", defArgs s__law_put, defBody s__law_put, defScope s__law_put⟩
def D__law_by : He.FnD := ⟨("_law_by", none), "_law_by", "_law_by", defArgs s__law_by, defBody s__law_by, defScope s__law_by⟩
def D__law_joined : He.FnD := ⟨("_law_joined", none), "_law_joined", "_law_joined", defArgs s__law_joined, defBody s__law_joined, defScope s__law_joined⟩
def D__law_powers : He.FnD := ⟨("_law_powers", none), "_law_powers", "_law_powers", defArgs s__law_powers, defBody s__law_powers, defScope s__law_powers⟩
def D__law_grown : He.FnD := ⟨("_law_grown", none), "_law_grown", "_law_grown", defArgs s__law_grown, defBody s__law_grown, defScope s__law_grown⟩
def D__law_logged : He.FnD := ⟨("_law_logged", none), "_law_logged", "_law_logged", defArgs s__law_logged, defBody s__law_logged, defScope s__law_logged⟩
def D_is_whole : He.FnD := ⟨("is_whole", none), "is_whole", "is_whole", defArgs s_is_whole, defBody s_is_whole, defScope s_is_whole⟩
def D_check_count : He.FnD := ⟨("check_count", none), "check_count", "check_count", defArgs s_check_count, defBody s_check_count, defScope s_check_count⟩
def D_is_word : He.FnD := ⟨("is_word", none), "is_word", "is_word", defArgs s_is_word, defBody s_is_word, defScope s_is_word⟩
def D_divisor : He.FnD := ⟨("divisor", none), "divisor", "divisor", defArgs s_divisor, defBody s_divisor, defScope s_divisor⟩
def D_is_number : He.FnD := ⟨("is_number", none), "is_number", "is_number", defArgs s_is_number, defBody s_is_number, defScope s_is_number⟩
def D_is_term : He.FnD := ⟨("is_term", none), "is_term", "is_term", defArgs s_is_term, defBody s_is_term, defScope s_is_term⟩
def D_rank : He.FnD := ⟨("rank", none), "rank", "rank", defArgs s_rank, defBody s_rank, defScope s_rank⟩
def D_check_sum : He.FnD := ⟨("check_sum", none), "check_sum", "check_sum", defArgs s_check_sum, defBody s_check_sum, defScope s_check_sum⟩
def D_told_sum : He.FnD := ⟨("told_sum", none), "told_sum", "told_sum", defArgs s_told_sum, defBody s_told_sum, defScope s_told_sum⟩
def D_lowest : He.FnD := ⟨("lowest", none), "lowest", "lowest", defArgs s_lowest, defBody s_lowest, defScope s_lowest⟩
def D_plus : He.FnD := ⟨("plus", none), "plus", "plus", defArgs s_plus, defBody s_plus, defScope s_plus⟩
def D_put_to : He.FnD := ⟨("put_to", none), "put_to", "put_to", defArgs s_put_to, defBody s_put_to, defScope s_put_to⟩
def D_times : He.FnD := ⟨("times", none), "times", "times", defArgs s_times, defBody s_times, defScope s_times⟩
def D_joined_short : He.FnD := ⟨("joined_short", none), "joined_short", "joined_short", defArgs s_joined_short, defBody s_joined_short, defScope s_joined_short⟩
def D_added_up : He.FnD := ⟨("added_up", none), "added_up", "added_up", defArgs s_added_up, defBody s_added_up, defScope s_added_up⟩
def D_fraction : He.FnD := ⟨("fraction", none), "fraction", "fraction", defArgs s_fraction, defBody s_fraction, defScope s_fraction⟩
def D_grown_short : He.FnD := ⟨("grown_short", none), "grown_short", "grown_short", defArgs s_grown_short, defBody s_grown_short, defScope s_grown_short⟩
def D_gathered : He.FnD := ⟨("gathered", none), "gathered", "gathered", defArgs s_gathered, defBody s_gathered, defScope s_gathered⟩
def D_grown : He.FnD := ⟨("grown", none), "grown", "grown", defArgs s_grown, defBody s_grown, defScope s_grown⟩
def D_logged_short : He.FnD := ⟨("logged_short", none), "logged_short", "logged_short", defArgs s_logged_short, defBody s_logged_short, defScope s_logged_short⟩
def D_logged : He.FnD := ⟨("logged", none), "logged", "logged", defArgs s_logged, defBody s_logged, defScope s_logged⟩
def D_law : He.FnD := ⟨("law", none), "law", "law", defArgs s_law, defBody s_law, defScope s_law⟩
def fns : List He.FnD := [D__law_mixed, D__law_purse, D__law_rank, D__law_told, D__law_take, D__law_low, D__law_number, D__law_drawn, D__law_at, D__law_plus, D__law_put, D__law_by, D__law_joined, D__law_powers, D__law_grown, D__law_logged, D_is_whole, D_check_count, D_is_word, D_divisor, D_is_number, D_is_term, D_rank, D_check_sum, D_told_sum, D_lowest, D_plus, D_put_to, D_times, D_joined_short, D_added_up, D_fraction, D_grown_short, D_gathered, D_grown, D_logged_short, D_logged, D_law]
abbrev P0 (K : PySem.W.Frag) : Prop := (seerB K = true) ∧
    (PySem.W.nsIn K mainGlobals "_law_mixed" = some (some (.ref (He.ga K "_law_mixed")))) ∧
    (PySem.W.keepIn K (.ref (He.ga K "_law_mixed")) = true) ∧
    (PySem.W.nsIn K mainGlobals "_law_purse" = some (some (.ref (He.ga K "_law_purse")))) ∧
    (PySem.W.keepIn K (.ref (He.ga K "_law_purse")) = true) ∧
    (PySem.W.nsIn K mainGlobals "_law_rank" = some (some (.ref (He.ga K "_law_rank")))) ∧
    (PySem.W.keepIn K (.ref (He.ga K "_law_rank")) = true) ∧
    (PySem.W.nsIn K mainGlobals "_law_told" = some (some (.ref (He.ga K "_law_told")))) ∧
    (PySem.W.keepIn K (.ref (He.ga K "_law_told")) = true) ∧
    (PySem.W.nsIn K mainGlobals "_law_take" = some (some (.ref (He.ga K "_law_take")))) ∧
    (PySem.W.keepIn K (.ref (He.ga K "_law_take")) = true) ∧
    (PySem.W.nsIn K mainGlobals "_law_low" = some (some (.ref (He.ga K "_law_low")))) ∧
    (PySem.W.keepIn K (.ref (He.ga K "_law_low")) = true) ∧
    (PySem.W.nsIn K mainGlobals "_law_number" = some (some (.ref (He.ga K "_law_number")))) ∧
    (PySem.W.keepIn K (.ref (He.ga K "_law_number")) = true) ∧
    (PySem.W.nsIn K mainGlobals "_law_drawn" = some (some (.ref (He.ga K "_law_drawn")))) ∧
    (PySem.W.keepIn K (.ref (He.ga K "_law_drawn")) = true) ∧
    (PySem.W.nsIn K mainGlobals "_law_at" = some (some (.ref (He.ga K "_law_at")))) ∧
    (PySem.W.keepIn K (.ref (He.ga K "_law_at")) = true) ∧
    (PySem.W.nsIn K mainGlobals "_law_plus" = some (some (.ref (He.ga K "_law_plus")))) ∧
    (PySem.W.keepIn K (.ref (He.ga K "_law_plus")) = true) ∧
    (PySem.W.nsIn K mainGlobals "_law_put" = some (some (.ref (He.ga K "_law_put")))) ∧
    (PySem.W.keepIn K (.ref (He.ga K "_law_put")) = true) ∧
    (PySem.W.nsIn K mainGlobals "_law_by" = some (some (.ref (He.ga K "_law_by")))) ∧
    (PySem.W.keepIn K (.ref (He.ga K "_law_by")) = true) ∧ True
def fk0 (K : PySem.W.Frag) : Bool := decide (P0 K)
abbrev P1 (K : PySem.W.Frag) : Prop := (PySem.W.nsIn K mainGlobals "_law_joined" = some (some (.ref (He.ga K "_law_joined")))) ∧
    (PySem.W.keepIn K (.ref (He.ga K "_law_joined")) = true) ∧
    (PySem.W.nsIn K mainGlobals "_law_powers" = some (some (.ref (He.ga K "_law_powers")))) ∧
    (PySem.W.keepIn K (.ref (He.ga K "_law_powers")) = true) ∧
    (PySem.W.nsIn K mainGlobals "_law_grown" = some (some (.ref (He.ga K "_law_grown")))) ∧
    (PySem.W.keepIn K (.ref (He.ga K "_law_grown")) = true) ∧
    (PySem.W.nsIn K mainGlobals "_law_logged" = some (some (.ref (He.ga K "_law_logged")))) ∧
    (PySem.W.keepIn K (.ref (He.ga K "_law_logged")) = true) ∧
    (PySem.W.nsIn K mainGlobals "is_whole" = some (some (.ref (He.ga K "is_whole")))) ∧
    (PySem.W.keepIn K (.ref (He.ga K "is_whole")) = true) ∧
    (PySem.W.nsIn K mainGlobals "check_count" = some (some (.ref (He.ga K "check_count")))) ∧
    (PySem.W.keepIn K (.ref (He.ga K "check_count")) = true) ∧
    (PySem.W.nsIn K mainGlobals "is_word" = some (some (.ref (He.ga K "is_word")))) ∧
    (PySem.W.keepIn K (.ref (He.ga K "is_word")) = true) ∧
    (PySem.W.nsIn K mainGlobals "divisor" = some (some (.ref (He.ga K "divisor")))) ∧
    (PySem.W.keepIn K (.ref (He.ga K "divisor")) = true) ∧
    (PySem.W.nsIn K mainGlobals "is_number" = some (some (.ref (He.ga K "is_number")))) ∧
    (PySem.W.keepIn K (.ref (He.ga K "is_number")) = true) ∧
    (PySem.W.nsIn K mainGlobals "is_term" = some (some (.ref (He.ga K "is_term")))) ∧
    (PySem.W.keepIn K (.ref (He.ga K "is_term")) = true) ∧
    (PySem.W.nsIn K mainGlobals "rank" = some (some (.ref (He.ga K "rank")))) ∧
    (PySem.W.keepIn K (.ref (He.ga K "rank")) = true) ∧
    (PySem.W.nsIn K mainGlobals "check_sum" = some (some (.ref (He.ga K "check_sum")))) ∧
    (PySem.W.keepIn K (.ref (He.ga K "check_sum")) = true) ∧
    (PySem.W.nsIn K mainGlobals "told_sum" = some (some (.ref (He.ga K "told_sum")))) ∧ True
def fk1 (K : PySem.W.Frag) : Bool := decide (P1 K)
abbrev P2 (K : PySem.W.Frag) : Prop := (PySem.W.keepIn K (.ref (He.ga K "told_sum")) = true) ∧
    (PySem.W.nsIn K mainGlobals "lowest" = some (some (.ref (He.ga K "lowest")))) ∧
    (PySem.W.keepIn K (.ref (He.ga K "lowest")) = true) ∧
    (PySem.W.nsIn K mainGlobals "plus" = some (some (.ref (He.ga K "plus")))) ∧
    (PySem.W.keepIn K (.ref (He.ga K "plus")) = true) ∧
    (PySem.W.nsIn K mainGlobals "put_to" = some (some (.ref (He.ga K "put_to")))) ∧
    (PySem.W.keepIn K (.ref (He.ga K "put_to")) = true) ∧
    (PySem.W.nsIn K mainGlobals "times" = some (some (.ref (He.ga K "times")))) ∧
    (PySem.W.keepIn K (.ref (He.ga K "times")) = true) ∧
    (PySem.W.nsIn K mainGlobals "joined_short" = some (some (.ref (He.ga K "joined_short")))) ∧
    (PySem.W.keepIn K (.ref (He.ga K "joined_short")) = true) ∧
    (PySem.W.nsIn K mainGlobals "added_up" = some (some (.ref (He.ga K "added_up")))) ∧
    (PySem.W.keepIn K (.ref (He.ga K "added_up")) = true) ∧
    (PySem.W.nsIn K mainGlobals "fraction" = some (some (.ref (He.ga K "fraction")))) ∧
    (PySem.W.keepIn K (.ref (He.ga K "fraction")) = true) ∧
    (PySem.W.nsIn K mainGlobals "grown_short" = some (some (.ref (He.ga K "grown_short")))) ∧
    (PySem.W.keepIn K (.ref (He.ga K "grown_short")) = true) ∧
    (PySem.W.nsIn K mainGlobals "gathered" = some (some (.ref (He.ga K "gathered")))) ∧
    (PySem.W.keepIn K (.ref (He.ga K "gathered")) = true) ∧
    (PySem.W.nsIn K mainGlobals "grown" = some (some (.ref (He.ga K "grown")))) ∧
    (PySem.W.keepIn K (.ref (He.ga K "grown")) = true) ∧
    (PySem.W.nsIn K mainGlobals "logged_short" = some (some (.ref (He.ga K "logged_short")))) ∧
    (PySem.W.keepIn K (.ref (He.ga K "logged_short")) = true) ∧
    (PySem.W.nsIn K mainGlobals "logged" = some (some (.ref (He.ga K "logged")))) ∧
    (PySem.W.keepIn K (.ref (He.ga K "logged")) = true) ∧ True
def fk2 (K : PySem.W.Frag) : Bool := decide (P2 K)
abbrev P3 (K : PySem.W.Frag) : Prop := (PySem.W.nsIn K mainGlobals "law" = some (some (.ref (He.ga K "law")))) ∧
    (PySem.W.keepIn K (.ref (He.ga K "law")) = true) ∧
    (PySem.W.nsIn K mainGlobals "abs" = some none) ∧
    (PySem.W.nsIn K mainGlobals "bool" = some none) ∧
    (PySem.W.nsIn K mainGlobals "dict" = some none) ∧
    (PySem.W.nsIn K mainGlobals "enumerate" = some none) ∧
    (PySem.W.nsIn K mainGlobals "int" = some none) ∧
    (PySem.W.nsIn K mainGlobals "isinstance" = some none) ∧
    (PySem.W.nsIn K mainGlobals "len" = some none) ∧
    (PySem.W.nsIn K mainGlobals "list" = some none) ∧
    (PySem.W.nsIn K mainGlobals "range" = some none) ∧
    (PySem.W.nsIn K mainGlobals "sorted" = some none) ∧
    (PySem.W.nsIn K mainGlobals "str" = some none) ∧
    (PySem.W.nsIn K mainGlobals "tuple" = some none) ∧
    ((He.Fa.int "MOST" 5).ok K = true) ∧
    ((He.Fa.int "MOST_LETTERS" 4).ok K = true) ∧
    (PySem.W.nsIn K mainGlobals "NOUGHT" = some (some (.ref (He.ga K "NOUGHT")))) ∧
    (He.tupB K "NOUGHT" [.int 0, .int 1] = true) ∧
    (PySem.W.nsIn K mainGlobals "ONE" = some (some (.ref (He.ga K "ONE")))) ∧
    (He.tupB K "ONE" [.int 1, .int 1] = true) ∧ True
def fk3 (K : PySem.W.Frag) : Bool := decide (P3 K)
def fk (K : PySem.W.Frag) : Bool := fk0 K && (fk1 K && (fk2 K && (fk3 K)))
abbrev hk : PySem.W.Hook := hookS 5 fk fns
def ob (s : PySem.W.SharedT) : AlS := obsSG 5 fk fns (HandSHeadRun.getT s)
theorem ob_eq (s : PySem.W.SharedT) : ob s = hk.obs s.abs := obsSG_eq (HandSHeadRun.getT_eq s)
def nm0 : List Str := ["SwapError", "NoNumber", "NoCount", "NotNought", "NotOne", "NoSum", "NOUGHT", "ONE", "is_whole", "divisor", "lowest", "is_number", "fraction", "plus", "times", "MOST", "is_word", "is_term", "rank", "check_sum", "gathered", "told_sum", "put_to", "MOST_LETTERS", "check_count", "joined_short", "added_up", "grown_short", "logged_short", "grown"]
def nm1 : List Str := ["logged", "_law_mixed", "_law_purse", "_law_take", "_law_at", "_law_low", "_law_plus", "_law_by", "_law_number", "_law_rank", "_law_told", "_law_put", "_law_joined", "_law_powers", "_law_grown", "_law_logged", "_law_drawn"]
def nms : List Str := nm0 ++ (nm1)
theorem run (w : World) : HandSHeadRun.RunEq (PySem.W.OpenLaw.row PySem.Challenge.rw_swaprest_k58_grown_and_logged_sums) (PySem.W.view (PySem.W.OpenLaw.row PySem.Challenge.rw_swaprest_k58_grown_and_logged_sums).prog [53]) hk ob 20000 nms w := by
  intro os
  kernel_rfl
end Lw

set_option maxRecDepth 100000
/-! SW1: data without a heap (D), how a heap bears them (At), owned cells (OwnAt), a frame's slots (Rel), steps (Stp). -/
namespace SW
open PySem PySem.Spec PyProof.Rows L2

/-- the built-in classes that are named -/
inductive Tc where
  | int | bool | tuple | list | str | dict
def Tc.nm : Tc → String
  | .int => "int"
  | .bool => "bool"
  | .tuple => "tuple"
  | .list => "list"
  | .str => "str"
  | .dict => "dict"
/-- a datum -/
inductive D where
  | non | bl (b : Bool) | int (i : Int) | str (x : Str)
  | tup (xs : List D) | lst (xs : List D)
  | dct (kvs : List (NestedKey × D))
  /-- an instance of a class of the program, its attributes; an exception of a class, with its one field or none -/
  | ins (c : Str) (fs : List (Str × D))
  | exc (c : Str) (fs : List (Str × D))
  | scr (ns : List Int)
  | ty (n : Tc)

/-- an exception of the class cls, caught once, at a -/
def ExT (cls : Value) (d : Option Addr) (a : Addr) : HO := .ext fun h => ∃ (oe : Obj) (vs : Array Value), h.get? a = some oe ∧ Zc cls d oe ∧ oe.data = .fields vs
/-- a dict's object and what its entries are: the key, its tuple, the value -/
structure DX where
  o : Obj
  xs : List (NestedKey × Addr × V)
def DT (a : Addr) (x : DX) : HO := .ext fun h => h.get? a = some x.o
mutual
/-- a key as a datum -/
def keyB : NestedKey → D
  | .none => .non
  | .num i => .int i
  | .text x => .str x
  | .tup ks => .tup (keyBs ks)
def keyBs : List NestedKey → List D
  | [] => []
  | k :: ks => keyB k :: keyBs ks
end
mutual
/-- a datum as a key (no texts) -/
def keyD : D → Option NestedKey
  | .non => some .none
  | .int i => some (.num i)
  | .tup ds => match keyDs ds with
    | some ks => some (.tup ks)
    | none => none
  | .bl _ => none
  | .str _ => none
  | .lst _ => none
  | .dct _ => none
  | .ins _ _ => none
  | .exc _ _ => none
  | .scr _ => none
  | .ty _ => none
def keyDs : List D → Option (List NestedKey)
  | [] => some []
  | d :: ds => match keyD d, keyDs ds with
    | some k, some ks => some (k :: ks)
    | _, _ => none
end
/-- a tuple that is a key -/
def keyT (d : D) : Option NestedKey := match d with
  | .tup ds => match keyD (.tup ds) with
    | some k => if k.depth ≤ 8 then some k else none
    | none => none
  | _ => none
def DX.vs (x : DX) : List V := (x.xs.map fun p => V.ref p.2.1) ++ x.xs.map fun p => p.2.2
def dvs (ds : List (NestedKey × D)) : List D := (ds.map fun p => keyB p.1) ++ ds.map fun p => p.2
abbrev EnL : List DictEntry → List (NestedKey × Addr × V) → Prop := Paired fun en x => (∀ w, en.hash = NestedKey.hash w x.1) ∧ en.key = .ref x.2.1 ∧ RelV x.2.2 en.val
/-- the object x.o, at a, is a dict of the entries x.xs, whose keys are those of ds -/
structure DTok (a : Addr) (x : DX) (ds : List (NestedKey × D)) : Prop where
  sys : (a == sysModules) = false
  ex : x.o.ExactDict
  keys : x.xs.map (·.1) = ds.map (·.1)
  nodup : (x.xs.map (·.1)).Nodup
  kk : ∀ p ∈ x.xs, keyT (keyB p.1) = some p.1
  ens : ∃ es ep, x.o.data = .dict es ep ∧ EnL es.toList x.xs

mutual
inductive At (K : PySem.W.Frag) (S : Hp) : V → D → Prop
  | non : At K S .non .non
  | bl (b : Bool) : At K S (.bl b) (.bl b)
  | int (i : Int) : At K S (.int i) (.int i)
  | str (x : Str) : At K S (.str x) (.str x)
  | tup {a : Addr} {vs : List V} {ds : List D} : SqT K S a vs → ds.length ≤ sizeLine → AtL K S vs ds → At K S (.ref a) (.tup ds)
  | lst {a : Addr} {vs : List V} {ds : List D} : S a = some (.lst vs) → ds.length ≤ sizeLine → AtL K S vs ds → At K S (.ref a) (.lst ds)
  | dct {a : Addr} {x : DX} {ds : List (NestedKey × D)} : S a = some (DT a x) → DTok a x ds → ds.length ≤ sizeLine → AtL K S x.vs (dvs ds) → At K S (.ref a) (.dct ds)
  | ins {a C dx : Addr} {c : Str} {fv : List (Str × V)} {fs : List (Str × D)} : S a = some (.ins C dx fv) → PySem.W.nsIn K mainGlobals c = some (some (.ref C)) → S dx = some (.own a) → fv.map (·.1) = fs.map (·.1) → AtL K S (fv.map (·.2)) (fs.map (·.2)) → At K S (.ref a) (.ins c fs)
  | exc0 {a C : Addr} {c : Str} : S a = some (ExT (.ref C) none a) → PySem.W.nsIn K mainGlobals c = some (some (.ref C)) → At K S (.ref a) (.exc c [])
  | exc1 {a C d : Addr} {c f : Str} {v : V} {x : D} : S a = some (ExT (.ref C) (some d) a) → PySem.W.nsIn K mainGlobals c = some (some (.ref C)) → S d = some (.xd [(f, v)]) → At K S v x → At K S (.ref a) (.exc c [(f, x)])
  | scr {a : Addr} {ns : List Int} : SqL K S a (ns.map V.int) → ns.length ≤ sizeLine → At K S (.ref a) (.scr ns)
  | ty {x : String} (n : Tc) : x = n.nm → At K S (.ty x) (.ty n)
inductive AtL (K : PySem.W.Frag) (S : Hp) : List V → List D → Prop
  | nil : AtL K S [] []
  | cons {v : V} {vs : List V} {d : D} {ds : List D} : At K S v d → AtL K S vs ds → AtL K S (v :: vs) (d :: ds)
end

theorem sqT_mono {K : PySem.W.Frag} {H H' : Hp} {a : Addr} {xs : List V} (e : Same H H') (h : SqT K H a xs) : SqT K H' a xs := by
  rcases h with (h | ⟨o, h⟩) | h
  · exact .inl (.inl (e _ _ h))
  · exact .inl (.inr ⟨o, e _ _ h⟩)
  · exact .inr h

mutual
theorem At.mono {K : PySem.W.Frag} {S S' : Hp} (e : Same S S') : ∀ {v : V} {d : D}, At K S v d → At K S' v d
  | _, _, .non => .non
  | _, _, .bl b => .bl b
  | _, _, .int i => .int i
  | _, _, .str x => .str x
  | _, _, .tup h z r => .tup (sqT_mono e h) z (AtL.mono e r)
  | _, _, .lst h z r => .lst (e _ _ h) z (AtL.mono e r)
  | _, _, .dct h k z r => .dct (e _ _ h) k z (AtL.mono e r)
  | _, _, .ins h c k q r => .ins (e _ _ h) c (e _ _ k) q (AtL.mono e r)
  | _, _, .exc0 h c => .exc0 (e _ _ h) c
  | _, _, .exc1 h c d r => .exc1 (e _ _ h) c (e _ _ d) (At.mono e r)
  | _, _, .scr h z => .scr (e.seq h) z
  | _, _, .ty n h => .ty n h
theorem AtL.mono {K : PySem.W.Frag} {S S' : Hp} (e : Same S S') : ∀ {vs : List V} {ds : List D}, AtL K S vs ds → AtL K S' vs ds
  | _, _, .nil => .nil
  | _, _, .cons h r => .cons (At.mono e h) (AtL.mono e r)
end
section
variable {K : PySem.W.Frag} {S S' H H' : Hp}
theorem AtL.length : ∀ {vs : List V} {ds : List D}, AtL K S vs ds → vs.length = ds.length
  | _, _, .nil => rfl
  | _, _, .cons _ r => by rw [List.length_cons, List.length_cons, AtL.length r]
theorem AtL.get : ∀ {vs : List V} {ds : List D} {i : Nat} {d : D}, AtL K S vs ds → ds[i]? = some d → ∃ v, vs[i]? = some v ∧ At K S v d
  | _, _, _, _, .nil, e => by simp at e
  | _, _, 0, _, .cons h _, e => by simp at e; subst e; exact ⟨_, rfl, h⟩
  | _, _, i + 1, _, .cons _ r, e => by
    obtain ⟨v, h1, h2⟩ := AtL.get (i := i) r (by simpa using e)
    exact ⟨v, by simpa using h1, h2⟩
theorem AtL.getV : ∀ {vs : List V} {ds : List D} {i : Nat} {v : V}, AtL K S vs ds → vs[i]? = some v → ∃ d, ds[i]? = some d ∧ At K S v d
  | _, _, _, _, .nil, e => by simp at e
  | _, _, 0, _, .cons h _, e => by simp at e; subst e; exact ⟨_, rfl, h⟩
  | _, _, i + 1, _, .cons _ r, e => by
    obtain ⟨v, h1, h2⟩ := AtL.getV (i := i) r (by simpa using e)
    exact ⟨v, by simpa using h1, h2⟩
theorem AtL.append : ∀ {vs ws : List V} {ds es : List D}, AtL K S vs ds → AtL K S ws es → AtL K S (vs ++ ws) (ds ++ es)
  | _, _, _, _, .nil, r => r
  | _, _, _, _, .cons h t, r => .cons h (AtL.append t r)
theorem AtL.take : ∀ {vs : List V} {ds : List D} (n : Nat), AtL K S vs ds → AtL K S (vs.take n) (ds.take n)
  | _, _, 0, _ => .nil
  | _, _, _ + 1, .nil => .nil
  | _, _, n + 1, .cons h t => .cons h (AtL.take n t)
theorem AtL.drop : ∀ {vs : List V} {ds : List D} (n : Nat), AtL K S vs ds → AtL K S (vs.drop n) (ds.drop n)
  | _, _, 0, r => r
  | _, _, _ + 1, .nil => .nil
  | _, _, n + 1, .cons _ t => AtL.drop n t
theorem AtL.set : ∀ {vs : List V} {ds : List D} {v : V} {d : D} (i : Nat), AtL K S vs ds → At K S v d → AtL K S (vs.set i v) (ds.set i d)
  | _, _, _, _, _, .nil, _ => .nil
  | _, _, _, _, 0, .cons _ t, h => .cons h t
  | _, _, _, _, i + 1, .cons q t, h => .cons q (AtL.set i t h)
theorem AtL.ints : ∀ ns : List Int, AtL K S (ns.map V.int) (ns.map D.int)
  | [] => .nil
  | n :: ns => .cons (.int n) (AtL.ints ns)

/-! ### owned cells -/
/-- what a cell that one name alone holds is: a list, a dict, an instance; what is in it stands -/
inductive Body (K : PySem.W.Frag) (S : Hp) (a : Addr) : HO → D → Prop
  | lst {vs : List V} {ds : List D} (z : ds.length ≤ sizeLine) (r : AtL K S vs ds) : Body K S a (.lst vs) (.lst ds)
  | dct {x : DX} {ds : List (NestedKey × D)} (k : DTok a x ds) (z : ds.length ≤ sizeLine) (r : AtL K S x.vs (dvs ds)) : Body K S a (DT a x) (.dct ds)
  | ins {C dx : Addr} {c : Str} {fv : List (Str × V)} {fs : List (Str × D)} (hc : PySem.W.nsIn K mainGlobals c = some (some (.ref C))) (hd : S dx = some (.own a)) (q : fv.map (·.1) = fs.map (·.1)) (r : AtL K S (fv.map (·.2)) (fs.map (·.2))) : Body K S a (.ins C dx fv) (.ins c fs)
theorem Body.mono {a : Addr} {o : HO} {d : D} (e : Same S S') : Body K S a o d → Body K S' a o d
  | .lst z r => .lst z (r.mono e)
  | .dct k z r => .dct k z (r.mono e)
  | .ins c k q r => .ins c (e _ _ k) q (r.mono e)
theorem Body.at {a : Addr} {o : HO} {d : D} (h : S a = some o) : Body K S a o d → At K S (.ref a) d
  | .lst z r => .lst h z r
  | .dct k z r => .dct h k z r
  | .ins c k q r => .ins h c k q r
def OwnAt (K : PySem.W.Frag) (S H : Hp) (v : V) (d : D) : Prop :=
  ∃ a, v = .ref a ∧ S a = none ∧ ∃ o, H a = some o ∧ Body K S a o d
theorem OwnAt.mkL {a : Addr} {vs : List V} {ds : List D} (n : S a = none) (h : H a = some (.lst vs)) (z : ds.length ≤ sizeLine) (r : AtL K S vs ds) : OwnAt K S H (.ref a) (.lst ds) := ⟨a, rfl, n, _, h, .lst z r⟩

def SlotAt (K : PySem.W.Frag) (S H : Hp) : Bool → Option V → Option D → Prop
  | _, none, none => True
  | false, some v, some d => At K S v d
  | true, some v, some d => OwnAt K S H v d
  | false, some _, none => True
  | _, _, _ => False

abbrev Rho := List (Option D)
abbrev Os := List Bool
abbrev Sg := L2.St

/-- the addresses that the owning slots hold -/
def Own (os : Os) (σ : Sg) (a : Addr) : Prop := ∃ i, os.getD i false = true ∧ σ[i]? = some (some (.ref a))

structure Rel (K : PySem.W.Frag) (S H : Hp) (os : Os) (σ : Sg) (ρ : Rho) : Prop where
  sub : Same S H
  len : σ.length = ρ.length
  slot : ∀ i x d, σ[i]? = some x → ρ[i]? = some d → SlotAt K S H (os.getD i false) x d
  sep : ∀ i j a, os.getD i false = true → os.getD j false = true → σ[i]? = some (some (.ref a)) → σ[j]? = some (some (.ref a)) → i = j

/-- O: what may be turned; all else that doesn't stand is left alone -/
structure Ext (O : Addr → Prop) (S H S' H' : Hp) : Prop where
  s : Same S S'
  sh : Same S' H'
  fr : ∀ a o, H a = some o → S a = none → ¬ O a → H' a = some o ∧ S' a = none
  there : ∀ a, H' a = none → H a = none

structure Stp (os : Os) (σ : Sg) (S H : Hp) (os' : Os) (σ' : Sg) (S' H' : Hp) : Prop where
  ext : Ext (Own os σ) S H S' H'
  own : ∀ a, Own os' σ' a → Own os σ a ∨ H a = none

theorem Ext.refl {O : Addr → Prop} (h : Same S H) : Ext O S H S H := ⟨Same.refl _, h, fun _ _ e n _ => ⟨e, n⟩, fun _ e => e⟩
theorem Ext.trans {O O1 : Addr → Prop} {S1 H1 S2 H2 : Hp} (a : Ext O S H S1 H1) (b : Ext O1 S1 H1 S2 H2) (ho : ∀ c, O1 c → O c ∨ H c = none) : Ext O S H S2 H2 where
  s := a.s.trans b.s
  sh := b.sh
  fr := fun c o e n no => by
    obtain ⟨e1, n1⟩ := a.fr c o e n no
    refine b.fr c o e1 n1 fun q => ?_
    rcases ho c q with q | q
    · exact no q
    · rw [e] at q; cases q
  there := fun c e => a.there c (b.there c e)
theorem Ext.weak {O O' : Addr → Prop} {S1 H1 : Hp} (a : Ext O S H S1 H1) (h : ∀ c, O c → O' c) : Ext O' S H S1 H1 :=
  ⟨a.s, a.sh, fun c o e n no => a.fr c o e n fun q => no (h c q), a.there⟩
theorem Stp.refl {os : Os} {σ : Sg} (h : Same S H) : Stp os σ S H os σ S H := ⟨Ext.refl h, fun _ q => .inl q⟩
theorem Stp.trans {os os1 os2 : Os} {σ σ1 σ2 : Sg} {S1 H1 S2 H2 : Hp} (a : Stp os σ S H os1 σ1 S1 H1) (b : Stp os1 σ1 S1 H1 os2 σ2 S2 H2) : Stp os σ S H os2 σ2 S2 H2 where
  ext := a.ext.trans b.ext a.own
  own := fun c q => by
    rcases b.own c q with q | q
    · exact a.own c q
    · exact .inr (a.ext.there c q)

/-- a new cell is laid and stands -/
theorem Ext.new {O : Addr → Prop} {p : Addr} {o : HO} (h : Same S H) (n : H p = none) : Ext O S H (upd S p o) (upd H p o) where
  s := fun b x e => by rw [upd_ne (ne_of_none (h b x e) n)]; exact e
  sh := fun b x e => by
    by_cases hb : b = p
    · subst hb; rw [upd_same] at e ⊢; exact e
    · rw [upd_ne hb] at e ⊢; exact h b x e
  fr := fun b x e nb _ => by
    have hb : b ≠ p := ne_of_none e n
    rw [upd_ne hb, upd_ne hb]; exact ⟨e, nb⟩
  there := fun b e => by
    by_cases hb : b = p
    · subst hb; rw [upd_same] at e; cases e
    · rw [upd_ne hb] at e; exact e
/-- a new cell is laid; it is owned -/
theorem Ext.newO {O : Addr → Prop} {p : Addr} {o : HO} (h : Same S H) (n : H p = none) : Ext O S H S (upd H p o) where
  s := Same.refl _
  sh := fun b x e => by rw [upd_ne (ne_of_none (h b x e) n)]; exact h b x e
  fr := fun b x e nb _ => by rw [upd_ne (ne_of_none e n)]; exact ⟨e, nb⟩
  there := fun b e => by
    by_cases hb : b = p
    · subst hb; rw [upd_same] at e; cases e
    · rw [upd_ne hb] at e; exact e
/-- an owned cell is turned -/
theorem Ext.turn {O : Addr → Prop} {p : Addr} {o : HO} (h : Same S H) (n : S p = none) (ho : O p) : Ext O S H S (upd H p o) where
  s := Same.refl _
  sh := fun b x e => by
    have hb : b ≠ p := fun z => by rw [z, n] at e; cases e
    rw [upd_ne hb]; exact h b x e
  fr := fun b x e nb no => by
    have hb : b ≠ p := fun z => no (by rw [z]; exact ho)
    rw [upd_ne hb]; exact ⟨e, nb⟩
  there := fun b e => by
    by_cases hb : b = p
    · subst hb; rw [upd_same] at e; cases e
    · rw [upd_ne hb] at e; exact e

theorem OwnAt.ext {O : Addr → Prop} {v : V} {d : D} (q : OwnAt K S H v d) (x : Ext O S H S' H') (h : ∀ a, v = .ref a → ¬ O a) : OwnAt K S' H' v d := by
  obtain ⟨a, e, n, q⟩ := q
  have no := h a e
  obtain ⟨o, eh, b⟩ := q
  obtain ⟨e1, n1⟩ := x.fr a _ eh n no
  exact ⟨a, e, n1, o, e1, b.mono x.s⟩
theorem OwnAt.some_ {v : V} {d : D} (q : OwnAt K S H v d) : ∃ a o, v = .ref a ∧ S a = none ∧ H a = some o := by
  obtain ⟨a, e, n, q⟩ := q
  obtain ⟨o, eh, b⟩ := q
  exact ⟨a, o, e, n, eh⟩

section
variable {os os' : Os} {σ σ' : Sg} {ρ ρ' : Rho} {i : Nat}
/-- nothing that the slots own is touched -/
theorem Rel.grow {O : Addr → Prop} (r : Rel K S H os σ ρ) (x : Ext O S H S' H') (h : ∀ a, Own os σ a → ¬ O a) : Rel K S' H' os σ ρ where
  sub := x.sh
  len := r.len
  slot := fun i v d e1 e2 => by
    have q := r.slot i v d e1 e2
    cases ho : os.getD i false <;> rw [ho] at q <;> cases v <;> cases d <;> simp only [SlotAt] at q ⊢
    · exact q.mono x.s
    · refine q.ext x fun a ea => h a ⟨i, ho, ?_⟩
      rw [e1, ea]
  sep := r.sep
theorem Rel.new {p : Addr} {o : HO} (r : Rel K S H os σ ρ) (n : H p = none) : Rel K (upd S p o) (upd H p o) os σ ρ := r.grow (Ext.new (O := fun _ => False) r.sub n) fun _ _ z => z
theorem Rel.newO {p : Addr} {o : HO} (r : Rel K S H os σ ρ) (n : H p = none) : Rel K S (upd H p o) os σ ρ := r.grow (Ext.newO (O := fun _ => False) r.sub n) fun _ _ z => z
/-- a slot is read -/
theorem Rel.val (r : Rel K S H os σ ρ) {d : D} (h : ρ[i]? = some (some d)) (ho : os.getD i false = false) : ∃ v, σ[i]? = some (some v) ∧ At K S v d := by
  have hl : i < σ.length := by rw [r.len]; exact (List.getElem?_eq_some_iff.mp h).1
  have q := r.slot i _ _ (List.getElem?_eq_getElem hl) h
  rw [ho] at q
  cases e : σ[i] with
  | none => rw [e] at q; exact q.elim
  | some v => rw [e] at q; exact ⟨v, by rw [List.getElem?_eq_getElem hl, e], q⟩
theorem Rel.own (r : Rel K S H os σ ρ) {d : D} (h : ρ[i]? = some (some d)) (ho : os.getD i false = true) : ∃ v, σ[i]? = some (some v) ∧ OwnAt K S H v d := by
  have hl : i < σ.length := by rw [r.len]; exact (List.getElem?_eq_some_iff.mp h).1
  have q := r.slot i _ _ (List.getElem?_eq_getElem hl) h
  rw [ho] at q
  cases e : σ[i] with
  | none => rw [e] at q; exact q.elim
  | some v => rw [e] at q; exact ⟨v, by rw [List.getElem?_eq_getElem hl, e], q⟩
/-- an owned slot's cell holds what is known -/
theorem Rel.owned (r : Rel K S H os σ ρ) {a : Addr} (h : Own os σ a) : S a = none ∧ ∃ o, H a = some o := by
  obtain ⟨i, ho, e⟩ := h
  have hl : i < ρ.length := by rw [← r.len]; exact (List.getElem?_eq_some_iff.mp e).1
  have q := r.slot i _ _ e (List.getElem?_eq_getElem hl)
  rw [ho] at q
  cases ed : ρ[i] with
  | none => rw [ed] at q; exact q.elim
  | some d =>
    rw [ed] at q
    obtain ⟨b, o, e1, n, e2⟩ := OwnAt.some_ (show OwnAt K S H (.ref a) d from q)
    cases e1
    exact ⟨n, o, e2⟩

/-! ### freezing -/
/-- all cells of the slots that are freed stand from now on -/
theorem getD_set_self {os : Os} {i : Nat} : (os.set i false).getD i false = false := by
  by_cases h : i < os.length
  · simp [List.getD, h]
  · rw [List.getD, List.getElem?_eq_none (by rw [List.length_set]; omega)]; rfl
theorem getD_set_ne {os : Os} {i j : Nat} {b : Bool} (h : i ≠ j) : (os.set i b).getD j false = os.getD j false := by
  simp [List.getD, List.getElem?_set_ne h]
theorem freeze1 (r : Rel K S H os σ ρ) (i : Nat) : ∃ S', Same S S' ∧ Rel K S' H (os.set i false) σ ρ ∧ Stp os σ S H (os.set i false) σ S' H ∧ ∀ v d, os.getD i false = true → σ[i]? = some (some v) → ρ[i]? = some (some d) → At K S' v d := by
  have hle : ∀ j, (os.set i false).getD j false = true → os.getD j false = true ∧ j ≠ i := fun j h => by
    by_cases e : i = j
    · subst e; rw [getD_set_self] at h; cases h
    · rw [getD_set_ne e] at h; exact ⟨h, fun z => e z.symm⟩
  have hown : ∀ a, Own (os.set i false) σ a → Own os σ a := fun a ⟨j, h, e⟩ => ⟨j, (hle j h).1, e⟩
  by_cases ho : os.getD i false = true
  · -- is the slot filled?
    by_cases hf : ∃ v d, σ[i]? = some (some v) ∧ ρ[i]? = some (some d)
    · obtain ⟨v, d, ev, ed⟩ := hf
      have q0 : OwnAt K S H v d := by
        have q := r.slot i _ _ ev ed
        rw [ho] at q
        exact q
      obtain ⟨a, e, n, qq⟩ := q0
      subst e
      -- the cell's object
      have key : ∀ o, H a = some o → At K (upd S a o) (.ref a) d → ∃ S', Same S S' ∧ Rel K S' H (os.set i false) σ ρ ∧ Stp os σ S H (os.set i false) σ S' H ∧ ∀ v d, os.getD i false = true → σ[i]? = some (some v) → ρ[i]? = some (some d) → At K S' v d := fun o eh hat => by
        have sm : Same S (upd S a o) := fun b x e => by
          have hb : b ≠ a := fun z => by rw [z, n] at e; cases e
          rw [upd_ne hb]; exact e
        have sh : Same (upd S a o) H := fun b x e => by
          by_cases hb : b = a
          · subst hb; rw [upd_same] at e; rw [eh]; exact e
          · rw [upd_ne hb] at e; exact r.sub b x e
        have ext : Ext (Own os σ) S H (upd S a o) H := ⟨sm, sh, fun b x e nb no => by
          have hb : b ≠ a := fun z => no (by rw [z]; exact ⟨i, ho, ev⟩)
          rw [upd_ne hb]; exact ⟨e, nb⟩, fun _ e => e⟩
        refine ⟨upd S a o, sm, ⟨sh, r.len, fun j x y e1 e2 => ?_, fun j k b h1 h2 e1 e2 => r.sep j k b (hle j h1).1 (hle k h2).1 e1 e2⟩, ⟨ext, fun b q => .inl (hown b q)⟩, fun v' d' _ e1 e2 => ?_⟩
        · by_cases hj : i = j
          · subst hj
            rw [ev] at e1; rw [ed] at e2; cases e1; cases e2
            rw [getD_set_self]; exact hat
          · rw [getD_set_ne hj]
            have q := r.slot j x y e1 e2
            cases hoj : os.getD j false <;> rw [hoj] at q <;> cases x <;> cases y <;> simp only [SlotAt] at q ⊢
            · exact q.mono sm
            · rename_i w z
              obtain ⟨b, eb, nb, q⟩ := q
              have hb : b ≠ a := fun z => hj (r.sep i j a ho hoj ev (by rw [e1, eb, z]))
              refine ⟨b, eb, by rw [upd_ne hb]; exact nb, ?_⟩
              obtain ⟨o', eh', bd⟩ := q
              exact ⟨o', eh', bd.mono sm⟩
        · rw [ev] at e1; rw [ed] at e2; cases e1; cases e2; exact hat
      obtain ⟨o, eh, bd⟩ := qq
      exact key _ eh ((bd.mono fun b x e => by
          have hb : b ≠ a := fun z => by rw [z, n] at e; cases e
          rw [upd_ne hb]; exact e).at upd_same)
    · refine ⟨S, Same.refl _, ⟨r.sub, r.len, fun j x y e1 e2 => ?_, fun j k b h1 h2 e1 e2 => r.sep j k b (hle j h1).1 (hle k h2).1 e1 e2⟩, ⟨Ext.refl r.sub, fun b q => .inl (hown b q)⟩, fun v' d' _ e1 e2 => (hf ⟨_, _, e1, e2⟩).elim⟩
      by_cases hj : i = j
      · subst hj
        rw [getD_set_self]
        have q := r.slot i x y e1 e2
        rw [ho] at q
        cases x <;> cases y <;> simp only [SlotAt] at q ⊢
        exact (hf ⟨_, _, e1, e2⟩).elim
      · rw [getD_set_ne hj]; exact r.slot j x y e1 e2
  · have hof : os.getD i false = false := by cases h : os.getD i false <;> simp_all
    have hsame : ∀ j, (os.set i false).getD j false = os.getD j false := fun j => by
      by_cases e : i = j
      · subst e; rw [getD_set_self, hof]
      · exact getD_set_ne e
    exact ⟨S, Same.refl _, ⟨r.sub, r.len, fun j x y e1 e2 => by rw [hsame]; exact r.slot j x y e1 e2, fun j k b h1 h2 => r.sep j k b (by rw [← hsame]; exact h1) (by rw [← hsame]; exact h2)⟩, ⟨Ext.refl r.sub, fun b q => .inl (hown b q)⟩, fun v d h => absurd h (by rw [hof]; decide)⟩
end
end
end SW

set_option maxRecDepth 100000
/-! SW2: outcomes, posts, judgements by data (VE, VT, VA, VG, VI, VS), the rules of names, constants, operators, displays, calls. -/
namespace SW
open PySem PySem.Spec PyProof.Rows L2

inductive Out (α : Type) where
  | ok (a : α) | exc (c : Str) (fs : Option (Str × D)) | stuck
def Out.bind {α β : Type} : Out α → (α → Out β) → Out β
  | .ok a, k => k a
  | .exc c fs, _ => .exc c fs
  | .stuck, _ => .stuck
def Out.of {α : Type} : Option α → Out α
  | some a => .ok a
  | none => .stuck

/-- an exception of the class that stands by the name c, with its one field or none -/
def ExcAt (K : PySem.W.Frag) (mg : Str → Option Value) (S : Hp) (c : Str) (fs : Option (Str × D)) (cls : Value) (dd : Option Addr) : Prop :=
  mg c = some cls ∧ match fs with
    | none => dd = none
    | some (f, d) => ∃ a v, dd = some a ∧ S a = some (.xd [(f, v)]) ∧ At K S v d

abbrev RR (α β : Type) := Hp → Hp → Hp → β → α → Prop
/-- what is known of a new value v that is d -/
def RV (K : PySem.W.Frag) (r : Bool) : RR D V := fun H S' H' v d => if r = true then OwnAt K S' H' v d ∧ ∀ a, v = .ref a → H a = none else At K S' v d
def RB : RR Bool Bool := fun _ _ _ b c => b = c
def RL (K : PySem.W.Frag) (n : Nat) : RR (List D) (List V) := fun _ S' _ vs ds => AtL K S' vs ds ∧ ds.length = n
def RR.Ok {α β : Type} (R : RR α β) : Prop := ∀ H H1 S' H' b d, (∀ a, H1 a = none → H a = none) → R H1 S' H' b d → R H S' H' b d
theorem RV.ok {K : PySem.W.Frag} {r : Bool} : (RV K r).Ok := fun H H1 S' H' b d h q => by
  cases r
  · exact q
  · exact ⟨q.1, fun a e => h a (q.2 a e)⟩
theorem RB.ok : RB.Ok := fun _ _ _ _ _ _ _ q => q
theorem RL.ok {K : PySem.W.Frag} {n : Nat} : (RL K n).Ok := fun _ _ _ _ _ _ _ q => q

/-- what is wanted behind an outcome -/
def Post {α β : Type} (X : Cx) (W : WX) (S H : Hp) (os : Os) (σ : Sg) (os' : Os) (R : RR α β) (Q : β → Hp → Prop) : Out (α × Rho) → Prop
  | .ok (d, ρ') => ∀ b S' H', Stp os σ S H os' σ S' H' → Rel X.K S' H' os' σ ρ' → R H S' H' b d → Q b H'
  | .exc c fs => ∀ S' H' cls dd, Ext (Own os σ) S H S' H' → ExcAt X.K X.mg S' c fs cls dd → W cls dd σ H'
  | .stuck => False

section
variable {X : Cx} {W : WX} {α β γ : Type} {S H S1 H1 : Hp} {os os1 os2 : Os} {σ : Sg} {R : RR α β} {Q : β → Hp → Prop}
theorem Post.step (hR : R.Ok) {x : Out (α × Rho)} (p : Post X W S H os σ os2 R Q x) (s : Stp os σ S H os1 σ S1 H1) : Post X W S1 H1 os1 σ os2 R Q x := by
  cases x with
  | ok z => exact fun b S' H' s' r q => p b S' H' (s.trans s') r (hR _ _ _ _ _ _ s.ext.there q)
  | exc c fs => exact fun S' H' cls dd e q => p S' H' cls dd (s.ext.trans e s.own) q
  | stuck => exact p
theorem Post.seq {F : Out γ → Prop} {x : Out (α × Rho)} {k : α × Rho → Out γ} (P : F (x.bind k)) (hs : ¬ F .stuck)
    (he : ∀ c fs, F (.exc c fs) → ∀ S' H' cls dd, Ext (Own os σ) S H S' H' → ExcAt X.K X.mg S' c fs cls dd → W cls dd σ H')
    (h : ∀ d ρ1 b S1 H1, Stp os σ S H os1 σ S1 H1 → Rel X.K S1 H1 os1 σ ρ1 → R H S1 H1 b d → F (k (d, ρ1)) → Q b H1) : Post X W S H os σ os1 R Q x := by
  cases x with
  | ok z => exact fun b S' H' s' r q => h z.1 z.2 b S' H' s' r q P
  | exc c fs => exact he c fs P
  | stuck => exact hs P
/-- the end of a chain -/
theorem Post.fin {os' : Os} {d : α} {ρ1 : Rho} {b : β} (P : Post X W S1 H1 os1 σ os1 R Q (.ok (d, ρ1))) (rel : Rel X.K S1 H1 os1 σ ρ1) (q : R H1 S1 H1 b d) : Q b H1 :=
  P b S1 H1 (Stp.refl rel.sub) rel q
end

/-! ### the judgements -/
def VE (X : Cx) (W : WX) (os : Os) (e : Expr) (f : Rho → Out (D × Rho)) (os' : Os) (r : Bool) : Prop :=
  ∃ t, PE X e t ∧ ∀ S σ H ρ Q, Rel X.K S H os σ ρ → Post X W S H os σ os' (RV X.K r) Q (f ρ) → t σ H Q
def VT (X : Cx) (W : WX) (os : Os) (e : Expr) (f : Rho → Out (Bool × Rho)) (os' : Os) : Prop :=
  ∃ t, PT X e t ∧ ∀ S σ H ρ Q, Rel X.K S H os σ ρ → Post X W S H os σ os' RB Q (f ρ) → t σ H Q
def VW (X : Cx) (W : WX) (os : Os) (e : Expr) (f : Rho → Out (Bool × Rho)) (os' : Os) : Prop :=
  ∃ t, PW X e t ∧ ∀ S σ H ρ Q, Rel X.K S H os σ ρ → Post X W S H os σ os' RB Q (f ρ) → t σ H Q
def VA (X : Cx) (W : WX) (os : Os) (es : List Expr) (f : Rho → Out (List D × Rho)) (os' : Os) : Prop :=
  ∃ t, PA X es t ∧ ∀ S σ H ρ Q, Rel X.K S H os σ ρ → Post X W S H os σ os' (RL X.K es.length) Q (f ρ) → t σ H Q

/-! ### their plain functions -/
def eVar (i : Nat) : Rho → Out (D × Rho) := fun ρ => match ρ.getD i none with
  | some d => .ok (d, ρ)
  | none => .stuck
def eCon (d : D) : Rho → Out (D × Rho) := fun ρ => .ok (d, ρ)
def eOp2 (g : D → D → Option D) (f1 f2 : Rho → Out (D × Rho)) : Rho → Out (D × Rho) := fun ρ =>
  (f1 ρ).bind fun p => (f2 p.2).bind fun q => (Out.of (g p.1 q.1)).bind fun c => .ok (c, q.2)
def eOp1 (g : D → Option D) (f1 : Rho → Out (D × Rho)) : Rho → Out (D × Rho) := fun ρ =>
  (f1 ρ).bind fun p => (Out.of (g p.1)).bind fun c => .ok (c, p.2)
def aNil : Rho → Out (List D × Rho) := fun ρ => .ok ([], ρ)
def aCons (f : Rho → Out (D × Rho)) (g : Rho → Out (List D × Rho)) : Rho → Out (List D × Rho) := fun ρ =>
  (f ρ).bind fun p => (g p.2).bind fun q => .ok (p.1 :: q.1, q.2)
def eTup (g : Rho → Out (List D × Rho)) : Rho → Out (D × Rho) := fun ρ => (g ρ).bind fun p => .ok (.tup p.1, p.2)
def eLst (g : Rho → Out (List D × Rho)) : Rho → Out (D × Rho) := fun ρ => (g ρ).bind fun p => .ok (.lst p.1, p.2)
/-- a built-in that gives a value of its arguments alone -/
def eArg (h : List D → Option D) (g : Rho → Out (List D × Rho)) : Rho → Out (D × Rho) := fun ρ =>
  (g ρ).bind fun p => (Out.of (h p.1)).bind fun c => .ok (c, p.2)
def eIf (c : Rho → Out (Bool × Rho)) (f g : Rho → Out (D × Rho)) : Rho → Out (D × Rho) := fun ρ => (c ρ).bind fun p => if p.1 = true then f p.2 else g p.2
def tVal (f : Rho → Out (D × Rho)) : Rho → Out (Bool × Rho) := fun ρ => (f ρ).bind fun p => match p.1 with
  | .bl b => .ok (b, p.2)
  | _ => .stuck
def tNotF (f : Rho → Out (Bool × Rho)) : Rho → Out (Bool × Rho) := fun ρ => (f ρ).bind fun p => .ok (!p.1, p.2)
def tAndF (f g : Rho → Out (Bool × Rho)) : Rho → Out (Bool × Rho) := fun ρ => (f ρ).bind fun p => if p.1 = true then g p.2 else .ok (false, p.2)
def tOrF (f g : Rho → Out (Bool × Rho)) : Rho → Out (Bool × Rho) := fun ρ => (f ρ).bind fun p => if p.1 = true then .ok (true, p.2) else g p.2
def eB (f : Rho → Out (Bool × Rho)) : Rho → Out (D × Rho) := fun ρ => (f ρ).bind fun p => .ok (.bl p.1, p.2)

/-! ### rules -/
theorem getD_le {fx os : Os} (h : (List.range fx.length).all (fun i => !fx.getD i false || os.getD i false) = true) {i : Nat} (hf : fx.getD i false = true) : os.getD i false = true := by
  have hi : i < fx.length := by
    rcases Nat.lt_or_ge i fx.length with h1 | h1
    · exact h1
    · rw [List.getD, List.getElem?_eq_none h1] at hf; cases hf
  have q := List.all_eq_true.mp h i (List.mem_range.mpr hi)
  rw [hf] at q
  simpa using q
/-- the slots of the first own by the second -/
abbrev Le (fx os : Os) : Prop := (List.range fx.length).all (fun i => !fx.getD i false || os.getD i false) = true
section
variable {X : Cx} {W : WX} {os os1 os2 os3 : Os} {e e1 e2 : Expr} {f f1 f2 : Rho → Out (D × Rho)} {pos : Pos} {r r1 r2 : Bool}

theorem ve_var (i : Nat) {x : Str} (hN : X.N[i]? = some x := by rfl) (hv : Vis X.env.scope x := by first | exact Or.inl rfl | exact Or.inr (Or.inl rfl) | exact Or.inr (Or.inr rfl)) (ho : os.getD i false = false := by rfl)
    (hd : (x == ("__debug__" : Str)) = false := by decide) (hcd : (x == ("__classdict__" : Str)) = false := by decide) : VE X W os (.Name x pos) (eVar i) os false := by
  refine ⟨_, pe_var hN hv hd hcd, fun S σ H ρ Q rel P => ?_⟩
  unfold eVar at P
  cases h : ρ.getD i none with
  | none => rw [h] at P; exact P.elim
  | some d =>
    rw [h] at P
    have e : ρ[i]? = some (some d) := by
      cases q : ρ[i]? with
      | none => simp [List.getD, q] at h
      | some y => simp [List.getD, q] at h; rw [h]
    obtain ⟨v, ev, hat⟩ := rel.val e ho
    exact ⟨v, ev, P.fin (os' := os) rel hat⟩
theorem ve_int {i j} : VE X W os (.Constant (.int i) j pos) (eCon (.int i)) os false := ⟨_, pe_int, fun S σ H ρ Q rel P => P.fin (os' := os) rel (.int i)⟩
theorem ve_bl {b j} : VE X W os (.Constant (.bool b) j pos) (eCon (.bl b)) os false := ⟨_, pe_bl, fun S σ H ρ Q rel P => P.fin (os' := os) rel (.bl b)⟩
/-- a module's constant -/
theorem ve_glob {x : Str} {v : V} {u : Value} {d : D} (hm : X.mg x = some u) (hr : RelV v u) (hat : ∀ S, At X.K S v d) (hg : Gl X x := by rfl) (hd : (x == ("__debug__" : Str)) = false := by decide) : VE X W os (.Name x pos) (eCon d) os false :=
  ⟨_, pe_glob hg hm hr hd, fun S σ H ρ Q rel P => P.fin (os' := os) rel (hat _)⟩

/-- an operator on two values, by data -/
def Op2 (X : Cx) (f : Value → Value → Sem Value) (g : D → D → Option D) : Prop :=
  ∃ r, OpR X f r ∧ ∀ S H x y a b c Q, Same S H → At X.K S x a → At X.K S y b → g a b = some c → (∀ v S' H', Ext (fun _ => False) S H S' H' → At X.K S' v c → Q v H') → r x y H Q
def Op1 (X : Cx) (f : Value → Sem Value) (g : D → Option D) : Prop :=
  ∃ r, UnR X f r ∧ ∀ S H x a c Q, Same S H → At X.K S x a → g a = some c → (∀ v S' H', Ext (fun _ => False) S H S' H' → At X.K S' v c → Q v H') → r x H Q

theorem Stp.of_ext {os : Os} {σ : Sg} {S H S' H' : Hp} (x : Ext (fun _ => False) S H S' H') : Stp os σ S H os σ S' H' := ⟨x.weak fun _ z => z.elim, fun _ q => .inl q⟩
theorem Rel.ext0 {K : PySem.W.Frag} {os : Os} {σ : Sg} {ρ : Rho} {S H S' H' : Hp} (r : Rel K S H os σ ρ) (x : Ext (fun _ => False) S H S' H') : Rel K S' H' os σ ρ := r.grow x fun _ _ z => z

theorem post_of {g : Option D} {S H : Hp} {os : Os} {σ : Sg} {ρ : Rho} {Q : VK} (P : Post X W S H os σ os (RV X.K false) Q ((Out.of g).bind fun c => .ok (c, ρ))) (rel : Rel X.K S H os σ ρ) :
    ∃ c, g = some c ∧ ∀ v S' H', Ext (fun _ => False) S H S' H' → At X.K S' v c → Q v H' := by
  cases g with
  | none => exact P.elim
  | some c => exact ⟨c, rfl, fun v S' H' x hat => P v S' H' (Stp.of_ext x) (rel.ext0 x) hat⟩

theorem ve_bin {op : Operator} {g : D → D → Option D} (ho : Op2 X (binaryOp op) g) (ha : VE X W os e1 f1 os1 false) (hb : VE X W os1 e2 f2 os2 false) : VE X W os (.BinOp e1 op e2 pos) (eOp2 g f1 f2) os2 false := by
  obtain ⟨ta, pa, ka⟩ := ha
  obtain ⟨tb, pb, kb⟩ := hb
  obtain ⟨rr, po, ko⟩ := ho
  refine ⟨_, pe_op po pa pb, fun S σ H ρ Q rel P => ?_⟩
  refine ka S σ H ρ _ rel (Post.seq P (fun z => z) (fun c fs p => p) fun d ρ1 v S1 H1 st1 rel1 q1 P1 => ?_)
  have P1 := P1.step RV.ok st1
  refine kb S1 σ H1 ρ1 _ rel1 (Post.seq P1 (fun z => z) (fun c fs p => p) fun d2 ρ2 v2 S2 H2 st2 rel2 q2 P2 => ?_)
  obtain ⟨c, hc, k⟩ := post_of (P2.step RV.ok st2) rel2
  exact ko S2 H2 v v2 d d2 c _ rel2.sub (At.mono st2.ext.s q1) q2 hc k
theorem ve_un {op : UnaryOp} {g : D → Option D} (ho : Op1 X (unaryOp op) g) (ha : VE X W os e1 f1 os1 false) : VE X W os (.UnaryOp op e1 pos) (eOp1 g f1) os1 false := by
  obtain ⟨ta, pa, ka⟩ := ha
  obtain ⟨rr, po, ko⟩ := ho
  refine ⟨_, pe_un po pa, fun S σ H ρ Q rel P => ?_⟩
  refine ka S σ H ρ _ rel (Post.seq P (fun z => z) (fun c fs p => p) fun d ρ1 v S1 H1 st1 rel1 q1 P1 => ?_)
  obtain ⟨c, hc, k⟩ := post_of (P1.step RV.ok st1) rel1
  exact ko S1 H1 v d c _ rel1.sub q1 hc k
theorem ve_cmp {op : CmpOp} {g : D → D → Option D} (ho : Op2 X (compareOp op) g) (ha : VE X W os e1 f1 os1 false) (hb : VE X W os1 e2 f2 os2 false) (hm : behindInMarks op e2 = false := by first | exact nomark _ | rfl) :
    VE X W os (.Compare e1 [op] [e2] pos) (eOp2 g f1 f2) os2 false := by
  obtain ⟨ta, pa, ka⟩ := ha
  obtain ⟨tb, pb, kb⟩ := hb
  obtain ⟨rr, po, ko⟩ := ho
  refine ⟨_, pe_cmpR po pa pb hm, fun S σ H ρ Q rel P => ?_⟩
  refine ka S σ H ρ _ rel (Post.seq P (fun z => z) (fun c fs p => p) fun d ρ1 v S1 H1 st1 rel1 q1 P1 => ?_)
  have P1 := P1.step RV.ok st1
  refine kb S1 σ H1 ρ1 _ rel1 (Post.seq P1 (fun z => z) (fun c fs p => p) fun d2 ρ2 v2 S2 H2 st2 rel2 q2 P2 => ?_)
  obtain ⟨c, hc, k⟩ := post_of (P2.step RV.ok st2) rel2
  exact ko S2 H2 v v2 d d2 c _ rel2.sub (At.mono st2.ext.s q1) q2 hc k

/-! ### argument lists, displays -/
theorem va_nil : VA X W os [] aNil os := ⟨_, pa_nil, fun S σ H ρ Q rel P => P.fin (os' := os) rel ⟨.nil, rfl⟩⟩
theorem va_cons {es : List Expr} {g : Rho → Out (List D × Rho)} (ha : VE X W os e f os1 false) (hb : VA X W os1 es g os2) (hs : starEach (e :: es) X.env = (false, eval e X.env) :: starEach es X.env := by rfl) :
    VA X W os (e :: es) (aCons f g) os2 := by
  obtain ⟨ta, pa, ka⟩ := ha
  obtain ⟨tb, pb, kb⟩ := hb
  refine ⟨_, pa_cons pa pb hs, fun S σ H ρ Q rel P => ?_⟩
  refine ka S σ H ρ _ rel (Post.seq P (fun z => z) (fun c fs p => p) fun d ρ1 v S1 H1 st1 rel1 q1 P1 => ?_)
  have P1 := P1.step RL.ok st1
  refine kb S1 σ H1 ρ1 _ rel1 (Post.seq P1 (fun z => z) (fun c fs p => p) fun d2 ρ2 v2 S2 H2 st2 rel2 q2 P2 => ?_)
  exact (P2.step RL.ok st2).fin (os' := os2) rel2 ⟨.cons (At.mono st2.ext.s q1) q2.1, by rw [List.length_cons, List.length_cons, q2.2]⟩
theorem sz1000 {n : Nat} (h : n ≤ 1000) : n ≤ sizeLine := Nat.le_of_lt (small1000 h)
theorem ve_tup {es : List Expr} {g : Rho → Out (List D × Rho)} {x1} (ha : VA X W os es g os1) (hz : es.length ≤ 1000 := by decide) : VE X W os (.Tuple es x1 pos) (eTup g) os1 false := by
  obtain ⟨ta, pa, ka⟩ := ha
  refine ⟨_, pe_tup pa, fun S σ H ρ Q rel P => ?_⟩
  refine ka S σ H ρ _ rel (Post.seq P (fun z => z) (fun c fs p => p) fun d ρ1 vs S1 H1 st1 rel1 q1 P1 => ?_)
  refine ⟨by rw [q1.1.length, q1.2]; exact sz1000 hz, fun p np => ?_⟩
  have x := Ext.new (O := fun _ => False) (o := .tup vs) rel1.sub np
  exact (P1.step RV.ok st1) _ _ _ (Stp.of_ext x) (rel1.ext0 x) (.tup (.inl (.inl upd_same)) (by rw [q1.2]; exact sz1000 hz) (q1.1.mono x.s))
/-- a new list is told: it stands from now on -/
theorem VE.fz (ha : VE X W os e f os1 true) (hle : Le os1 os := by rfl) : VE X W os e f os1 false := by
  obtain ⟨ta, pa, ka⟩ := ha
  refine ⟨_, pa, fun S σ H ρ Q rel P => ?_⟩
  refine ka S σ H ρ _ rel ?_
  cases h : f ρ with
  | exc c fs => rw [h] at P; exact P
  | stuck => rw [h] at P; exact P
  | ok z =>
    obtain ⟨d, ρ1⟩ := z
    rw [h] at P
    intro v S1 H1 st1 rel1 q1
    have q1 : OwnAt X.K S1 H1 v d ∧ ∀ a, v = .ref a → H a = none := q1
    obtain ⟨⟨a, e, n, qq⟩, fr⟩ := q1
    subst e
    have na := fr a rfl
    have key : ∀ o, H1 a = some o → (Same S1 (upd S1 a o) → At X.K (upd S1 a o) (.ref a) d) → Q (.ref a) H1 := fun o eh hat => by
      have sm : Same S1 (upd S1 a o) := fun b x e => by
        have hb : b ≠ a := fun z => by rw [z, n] at e; cases e
        rw [upd_ne hb]; exact e
      have sh : Same (upd S1 a o) H1 := fun b x e => by
        by_cases hb : b = a
        · subst hb; rw [upd_same] at e; rw [eh]; exact e
        · rw [upd_ne hb] at e; exact rel1.sub b x e
      have hno : ∀ j, os1.getD j false = true → σ[j]? ≠ some (some (.ref a)) := fun j hj hs => by
        obtain ⟨_, o, eo⟩ := rel.owned ⟨j, getD_le hle hj, hs⟩
        rw [na] at eo
        cases eo
      refine P (.ref a) (upd S1 a o) H1 ⟨⟨st1.ext.s.trans sm, sh, fun b x e nb no => ?_, st1.ext.there⟩, st1.own⟩ ⟨sh, rel1.len, fun j x y e1 e2 => ?_, rel1.sep⟩ (hat sm)
      · obtain ⟨e1, n1⟩ := st1.ext.fr b x e nb no
        rw [upd_ne (ne_of_none e na)]
        exact ⟨e1, n1⟩
      · have q := rel1.slot j x y e1 e2
        cases hoj : os1.getD j false <;> rw [hoj] at q <;> cases x <;> cases y <;> simp only [SlotAt] at q ⊢
        · exact q.mono sm
        · obtain ⟨b, eb, nb, q⟩ := q
          subst eb
          have hb : b ≠ a := fun z => hno j hoj (by rw [e1, z])
          refine ⟨b, rfl, by rw [upd_ne hb]; exact nb, ?_⟩
          obtain ⟨o', eh', bd⟩ := q
          exact ⟨o', eh', bd.mono sm⟩
    obtain ⟨o, eh, bd⟩ := qq
    exact key _ eh fun sm => (bd.mono sm).at upd_same
/-- a list display -/
theorem ve_lstO {es : List Expr} {g : Rho → Out (List D × Rho)} (ha : VA X W os es g os1) (hz : es.length ≤ 1000 := by decide) : VE X W os (.List es pos) (eLst g) os1 true := by
  obtain ⟨ta, pa, ka⟩ := ha
  refine ⟨_, pe_lst pa, fun S σ H ρ Q rel P => ?_⟩
  refine ka S σ H ρ _ rel (Post.seq P (fun z => z) (fun c fs p => p) fun d ρ1 vs S1 H1 st1 rel1 q1 P1 => ?_)
  refine ⟨by rw [q1.1.length, q1.2]; exact sz1000 hz, fun p np => ?_⟩
  have x := Ext.newO (O := fun _ => False) (o := .lst vs) rel1.sub np
  exact (P1.step RV.ok st1) _ _ _ (Stp.of_ext x) (rel1.ext0 x) ⟨.mkL (rel1.sub.free np) upd_same (by rw [q1.2]; exact sz1000 hz) (q1.1), fun a e => by cases e; exact np⟩

/-! ### tests -/
theorem vt_val (ha : VE X W os e f os1 false) (he : ∀ whole, isTrue e X.env whole = (do let v ← whole; standAt e.pos; holding [v] (truthy v)) := by intro _; rfl) : VT X W os e (tVal f) os1 := by
  obtain ⟨ta, pa, ka⟩ := ha
  refine ⟨_, pt_val pa he, fun S σ H ρ Q rel P => ?_⟩
  refine ka S σ H ρ _ rel (Post.seq P (fun z => z) (fun c fs p => p) fun d ρ1 v S1 H1 st1 rel1 q1 P1 => ?_)
  cases q1 with
  | bl b => exact ⟨b, rfl, (P1.step RB.ok st1).fin (os' := os1) rel1 rfl⟩
  | _ => exact P1.elim
theorem vt_cmp {op : CmpOp} {g : D → D → Option D} (ho : Op2 X (compareOp op) g) (ha : VE X W os e1 f1 os1 false) (hb : VE X W os1 e2 f2 os2 false) (hm : behindInMarks op e2 = false := by first | exact nomark _ | rfl) :
    VT X W os (.Compare e1 [op] [e2] pos) (tVal (eOp2 g f1 f2)) os2 := by
  obtain ⟨ta, pa, ka⟩ := ha
  obtain ⟨tb, pb, kb⟩ := hb
  obtain ⟨rr, po, ko⟩ := ho
  refine ⟨_, pt_cmpR po pa pb hm, fun S σ H ρ Q rel P => ?_⟩
  have P : Post X W S H os σ os2 RB Q ((f1 ρ).bind fun p => ((f2 p.2).bind fun q => (Out.of (g p.1 q.1)).bind fun c => Out.ok (c, q.2)).bind fun p => match p.1 with
    | .bl b => Out.ok (b, p.2)
    | _ => Out.stuck) := by
    unfold tVal eOp2 at P
    cases h : f1 ρ <;> rw [h] at P <;> exact P
  refine ka S σ H ρ _ rel (Post.seq P (fun z => z) (fun c fs p => p) fun d ρ1 v S1 H1 st1 rel1 q1 P1 => ?_)
  have P1 := P1.step RB.ok st1
  have P1 : Post X W S1 H1 os1 σ os2 RB Q ((f2 ρ1).bind fun q => ((Out.of (g d q.1)).bind fun c => Out.ok (c, q.2)).bind fun p => match p.1 with
    | .bl b => Out.ok (b, p.2)
    | _ => Out.stuck) := by
    dsimp only at P1
    cases h : f2 ρ1 <;> rw [h] at P1 <;> exact P1
  refine kb S1 σ H1 ρ1 _ rel1 (Post.seq P1 (fun z => z) (fun c fs p => p) fun d2 ρ2 v2 S2 H2 st2 rel2 q2 P2 => ?_)
  have P2 := P2.step RB.ok st2
  dsimp only at P2
  cases hc : g d d2 with
  | none => rw [hc] at P2; exact P2.elim
  | some c =>
    rw [hc] at P2
    refine ko S2 H2 v v2 d d2 c _ rel2.sub (At.mono st2.ext.s q1) q2 hc fun v' S' H' x hat => ?_
    cases hat with
    | bl b => exact ⟨b, rfl, P2 b S' H' (Stp.of_ext x) (rel2.ext0 x) rfl⟩
    | _ => exact P2.elim
theorem VW.vt {g : Rho → Out (Bool × Rho)} (h : VW X W os e g os1) : VT X W os e g os1 := by
  obtain ⟨t, p, k⟩ := h
  exact ⟨t, p.pt, k⟩
section
variable {g g1 g2 : Rho → Out (Bool × Rho)} {a b : Expr} {rest : List Expr}
theorem vt_not (h : VT X W os a g os1) : VT X W os (.UnaryOp .Not a pos) (tNotF g) os1 := by
  obtain ⟨t, p, k⟩ := h
  refine ⟨_, pt_not p, fun S σ H ρ Q rel P => ?_⟩
  refine k S σ H ρ _ rel (Post.seq P (fun z => z) (fun c fs p => p) fun d ρ1 v S1 H1 st1 rel1 q1 P1 => ?_)
  cases q1
  exact (P1.step RB.ok st1).fin (os' := os1) rel1 rfl
theorem vw_and1 (h : VT X W os a g os1) : VW X W os (.BoolOp .And [a] pos) g os1 := by
  obtain ⟨t, p, k⟩ := h
  exact ⟨t, pw_and1 p, k⟩
theorem vw_or1 (h : VT X W os a g os1) : VW X W os (.BoolOp .Or [a] pos) g os1 := by
  obtain ⟨t, p, k⟩ := h
  exact ⟨t, pw_or1 p, k⟩
theorem vw_and (h : VT X W os a g1 os) (h2 : VW X W os (.BoolOp .And (b :: rest) pos) g2 os) : VW X W os (.BoolOp .And (a :: b :: rest) pos) (tAndF g1 g2) os := by
  obtain ⟨t, p, k⟩ := h
  obtain ⟨t2, p2, k2⟩ := h2
  refine ⟨_, pw_and p p2, fun S σ H ρ Q rel P => ?_⟩
  refine k S σ H ρ _ rel (Post.seq P (fun z => z) (fun c fs p => p) fun d ρ1 v S1 H1 st1 rel1 q1 P1 => ?_)
  cases q1
  cases d with
  | true => exact k2 S1 σ H1 ρ1 Q rel1 (Post.step RB.ok P1 st1)
  | false => exact (Post.step RB.ok P1 st1).fin (os' := os) rel1 rfl
theorem vw_or (h : VT X W os a g1 os) (h2 : VW X W os (.BoolOp .Or (b :: rest) pos) g2 os) : VW X W os (.BoolOp .Or (a :: b :: rest) pos) (tOrF g1 g2) os := by
  obtain ⟨t, p, k⟩ := h
  obtain ⟨t2, p2, k2⟩ := h2
  refine ⟨_, pw_or p p2, fun S σ H ρ Q rel P => ?_⟩
  refine k S σ H ρ _ rel (Post.seq P (fun z => z) (fun c fs p => p) fun d ρ1 v S1 H1 st1 rel1 q1 P1 => ?_)
  cases q1
  cases d with
  | true => exact (Post.step RB.ok P1 st1).fin (os' := os) rel1 rfl
  | false => exact k2 S1 σ H1 ρ1 Q rel1 (Post.step RB.ok P1 st1)
/-! and, or, not as values (truths) -/
def eAndF (f g : Rho → Out (D × Rho)) : Rho → Out (D × Rho) := fun ρ => (f ρ).bind fun p => match p.1 with
  | .bl true => g p.2
  | .bl false => .ok (.bl false, p.2)
  | _ => .stuck
def eOrF (f g : Rho → Out (D × Rho)) : Rho → Out (D × Rho) := fun ρ => (f ρ).bind fun p => match p.1 with
  | .bl true => .ok (.bl true, p.2)
  | .bl false => g p.2
  | _ => .stuck
def eNotF (f : Rho → Out (D × Rho)) : Rho → Out (D × Rho) := fun ρ => (f ρ).bind fun p => match p.1 with
  | .bl b => .ok (.bl (!b), p.2)
  | _ => .stuck
theorem ve_one {op} (h : VE X W os a f os1 false) : VE X W os (.BoolOp op [a] pos) f os1 false := by
  obtain ⟨t, p, k⟩ := h
  exact ⟨t, pe_one p, k⟩
theorem ve_and (h : VE X W os a f1 os false) (h2 : VE X W os (.BoolOp .And (b :: rest) pos) f2 os false) : VE X W os (.BoolOp .And (a :: b :: rest) pos) (eAndF f1 f2) os false := by
  obtain ⟨t, p, k⟩ := h
  obtain ⟨t2, p2, k2⟩ := h2
  refine ⟨_, pe_and p p2, fun S σ H ρ Q rel P => ?_⟩
  refine k S σ H ρ _ rel (Post.seq P (fun z => z) (fun c fs p => p) fun d ρ1 v S1 H1 st1 rel1 q1 P1 => ?_)
  cases q1 with
  | bl c =>
    cases c with
    | true => exact ⟨true, rfl, k2 S1 σ H1 ρ1 Q rel1 (Post.step RV.ok P1 st1)⟩
    | false => exact ⟨false, rfl, (Post.step RV.ok P1 st1).fin (os' := os) rel1 (.bl false)⟩
  | _ => exact P1.elim
theorem ve_not (h : VE X W os a f os1 false) : VE X W os (.UnaryOp .Not a pos) (eNotF f) os1 false := by
  obtain ⟨t, p, k⟩ := h
  refine ⟨_, pe_not p, fun S σ H ρ Q rel P => ?_⟩
  refine k S σ H ρ _ rel (Post.seq P (fun z => z) (fun c fs p => p) fun d ρ1 v S1 H1 st1 rel1 q1 P1 => ?_)
  cases q1 with
  | bl c => exact ⟨c, rfl, (Post.step RV.ok P1 st1).fin (os' := os1) rel1 (.bl _)⟩
  | _ => exact P1.elim
end
end
end SW

set_option maxRecDepth 100000
/-! SW3: what a def promises by data (spec), calls, statements, targets, a def by its body. -/
namespace SW
open PySem PySem.Spec PyProof.Rows L2

/-! ### slots stored -/
section
variable {K : PySem.W.Frag} {S S' H H' : Hp} {os os' : Os} {σ σ' : Sg} {ρ ρ' : Rho} {i : Nat} {v : V} {d : D}
theorem getD_set {os : Os} {i j : Nat} {b : Bool} : (os.set i b).getD j false = true → (j ≠ i ∧ os.getD j false = true) ∨ (j = i ∧ b = true) := fun h => by
  by_cases e : i = j
  · subst e
    refine .inr ⟨rfl, ?_⟩
    by_cases hl : i < os.length
    · simpa [List.getD, hl] using h
    · rw [List.getD, List.getElem?_eq_none (by rw [List.length_set]; omega)] at h; cases h
  · rw [getD_set_ne e] at h; exact .inl ⟨fun z => e z.symm, h⟩
theorem own_set {a : Addr} (h : Own (os.set i false) (σ.set i (some v)) a) : Own os σ a := by
  obtain ⟨j, h1, h2⟩ := h
  rcases getD_set h1 with ⟨hj, h1⟩ | ⟨_, z⟩
  · rw [List.getElem?_set_ne (fun z => hj z.symm)] at h2; exact ⟨j, h1, h2⟩
  · cases z
theorem Rel.set (r : Rel K S H os σ ρ) (hv : At K S v d) (i : Nat) : Rel K S H (os.set i false) (σ.set i (some v)) (ρ.set i (some d)) where
  sub := r.sub
  len := by rw [List.length_set, List.length_set]; exact r.len
  slot := fun j x y e1 e2 => by
    by_cases hj : i = j
    · subst hj
      have hl : i < σ.length := by
        have := (List.getElem?_eq_some_iff.mp e1).1
        rwa [List.length_set] at this
      rw [List.getElem?_set_self hl] at e1
      rw [List.getElem?_set_self (by rw [← r.len]; exact hl)] at e2
      cases e1; cases e2
      rw [getD_set_self]; exact hv
    · rw [List.getElem?_set_ne hj] at e1 e2
      rw [getD_set_ne hj]; exact r.slot j x y e1 e2
  sep := fun j k a h1 h2 e1 e2 => by
    rcases getD_set h1 with ⟨hj, h1⟩ | ⟨_, z⟩
    · rcases getD_set h2 with ⟨hk, h2⟩ | ⟨_, z⟩
      · rw [List.getElem?_set_ne (fun z => hj z.symm)] at e1
        rw [List.getElem?_set_ne (fun z => hk z.symm)] at e2
        exact r.sep j k a h1 h2 e1 e2
      · cases z
    · cases z
theorem Rel.setO (r : Rel K S H os σ ρ) (hv : OwnAt K S H v d) (hn : ∀ a, v = .ref a → ∀ j, j ≠ i → os.getD j false = true → σ[j]? ≠ some (some (.ref a))) (hi : i < os.length) : Rel K S H (os.set i true) (σ.set i (some v)) (ρ.set i (some d)) where
  sub := r.sub
  len := by rw [List.length_set, List.length_set]; exact r.len
  slot := fun j x y e1 e2 => by
    by_cases hj : i = j
    · subst hj
      have hl : i < σ.length := by
        have := (List.getElem?_eq_some_iff.mp e1).1
        rwa [List.length_set] at this
      rw [List.getElem?_set_self hl] at e1
      rw [List.getElem?_set_self (by rw [← r.len]; exact hl)] at e2
      cases e1; cases e2
      have e : (os.set i true).getD i false = true := by simp [List.getD, hi]
      rw [e]; exact hv
    · rw [List.getElem?_set_ne hj] at e1 e2
      rw [getD_set_ne hj]; exact r.slot j x y e1 e2
  sep := fun j k a h1 h2 e1 e2 => by
    rcases getD_set h1 with ⟨hj, h1'⟩ | ⟨hj, _⟩
    · rw [List.getElem?_set_ne (fun z => hj z.symm)] at e1
      rcases getD_set h2 with ⟨hk, h2'⟩ | ⟨hk, _⟩
      · rw [List.getElem?_set_ne (fun z => hk z.symm)] at e2
        exact r.sep j k a h1' h2' e1 e2
      · subst hk
        have hl : k < σ.length := by
          have := (List.getElem?_eq_some_iff.mp e2).1
          rwa [List.length_set] at this
        rw [List.getElem?_set_self hl] at e2
        cases e2
        exact (hn a rfl j hj h1' e1).elim
    · rcases getD_set h2 with ⟨hk, h2'⟩ | ⟨hk, _⟩
      · rw [List.getElem?_set_ne (fun z => hk z.symm)] at e2
        subst hj
        have hl : j < σ.length := by
          have := (List.getElem?_eq_some_iff.mp e1).1
          rwa [List.length_set] at this
        rw [List.getElem?_set_self hl] at e1
        cases e1
        exact (hn a rfl k hk h2' e2).elim
      · rw [hj, hk]
theorem own_setO {a : Addr} (h : Own (os.set i true) (σ.set i (some v)) a) : Own os σ a ∨ v = .ref a := by
  obtain ⟨j, h1, h2⟩ := h
  rcases getD_set h1 with ⟨hj, h1⟩ | ⟨hj, _⟩
  · rw [List.getElem?_set_ne (fun z => hj z.symm)] at h2; exact .inl ⟨j, h1, h2⟩
  · subst hj
    have hl : j < σ.length := by
      have := (List.getElem?_eq_some_iff.mp h2).1
      rwa [List.length_set] at this
    rw [List.getElem?_set_self hl] at h2
    cases h2
    exact .inr rfl
/-- the cell of an owning slot holds other data now -/
theorem Rel.turn (r : Rel K S H os σ ρ) {a : Addr} (ho : os.getD i false = true) (hs : σ[i]? = some (some (.ref a))) {o : HO} (hn : OwnAt K S (upd H a o) (.ref a) d) : Rel K S (upd H a o) os σ (ρ.set i (some d)) where
  sub := fun b x e => by
    have hb : b ≠ a := fun z => by
      obtain ⟨a', e', n, _⟩ := hn
      cases e'
      rw [z, n] at e; cases e
    rw [upd_ne hb]; exact r.sub b x e
  len := by rw [List.length_set]; exact r.len
  slot := fun j x y e1 e2 => by
    by_cases hj : i = j
    · subst hj
      rw [hs] at e1
      have hl : i < ρ.length := by
        have := (List.getElem?_eq_some_iff.mp e2).1
        rwa [List.length_set] at this
      rw [List.getElem?_set_self hl] at e2
      cases e1; cases e2
      rw [ho]; exact hn
    · rw [List.getElem?_set_ne hj] at e2
      have q := r.slot j x y e1 e2
      cases hoj : os.getD j false <;> rw [hoj] at q <;> cases x <;> cases y <;> simp only [SlotAt] at q ⊢
      · exact q
      · obtain ⟨b, eb, nb, q⟩ := q
        subst eb
        have hb : b ≠ a := fun z => hj (r.sep i j a ho hoj hs (by rw [e1, z]))
        refine ⟨b, rfl, nb, ?_⟩
        rw [upd_ne hb]; exact q
  sep := r.sep
theorem Stp.turn (r : Rel K S H os σ ρ) {a : Addr} (ho : os.getD i false = true) (hs : σ[i]? = some (some (.ref a))) {o : HO} : Stp os σ S H os σ S (upd H a o) :=
  ⟨Ext.turn r.sub (r.owned ⟨i, ho, hs⟩).1 ⟨i, ho, hs⟩, fun _ q => .inl q⟩
end

/-! ### a def's promise, by data -/
def osP : Option Nat → Os
  | none => []
  | some k => List.replicate k false ++ [true]
/-- n parameters; pm: the parameter whose list or dict the def turns; r: the told list is a new one, the asker's own; m: the value and what the turned one holds then -/
def spec (K : PySem.W.Frag) (mg : Str → Option Value) (n : Nat) (pm : Option Nat) (r : Bool) (m : List D → Out (D × D)) : Sp := fun vs H Q E =>
  vs.length = n ∧ ∃ S ds, Rel K S H (osP pm) (vs.map some) (ds.map some) ∧ match m ds with
    | .ok (d, o) => ∀ v S' H', Ext (Own (osP pm) (vs.map some)) S H S' H' → RV K r H S' H' v d → (∀ k u, pm = some k → vs[k]? = some u → OwnAt K S' H' u o) → Q v H'
    | .exc c fs => ∀ S' H' cls dd, Ext (Own (osP pm) (vs.map some)) S H S' H' → ExcAt K mg S' c fs cls dd → E cls dd H'
    | .stuck => False

theorem rel_args {K : PySem.W.Frag} {S H : Hp} {vs : List V} {ds : List D} (h : AtL K S vs ds) (sub : Same S H) : Rel K S H [] (vs.map some) (ds.map some) where
  sub := sub
  len := by rw [List.length_map, List.length_map, h.length]
  slot := fun i x y e1 e2 => by
    rw [List.getElem?_map] at e1 e2
    cases ed : ds[i]? with
    | none => rw [ed] at e2; cases e2
    | some d =>
      obtain ⟨v, ev, hat⟩ := h.get ed
      rw [ed] at e2; rw [ev] at e1
      cases e1; cases e2
      exact hat
  sep := fun i j a h1 => by simp [List.getD] at h1
theorem own_nil {σ : Sg} {a : Addr} (h : Own [] σ a) : False := by
  obtain ⟨i, h, _⟩ := h
  simp [List.getD] at h

def eCall (m : List D → Out (D × D)) (g : Rho → Out (List D × Rho)) : Rho → Out (D × Rho) := fun ρ => (g ρ).bind fun p => (m p.1).bind fun q => .ok (q.1, p.2)

section
variable {X : Cx} {W : WX} {os os1 os2 os3 : Os} {e e1 e2 : Expr} {f f1 f2 : Rho → Out (D × Rho)} {pos p : Pos} {r r1 r2 : Bool} {es : List Expr} {g : Rho → Out (List D × Rho)}
theorem ve_call {x : Str} {k : Nat} {fa : Addr} {fd : FuncData} {ps : List Str} {m : List D → Out (D × D)} (F : FnOk X.prog X.w X.K X.mg X.base (L2.CX X.prog X.w) k fa fd ps (spec X.K X.mg (es.length + 1) none r m)) (tk : Takes X W)
    (hr : Room k X.A) (hm : X.mg x = some (.ref fa)) (hk : PySem.W.keepIn X.K (.ref fa) = true) (hb : Binds X.K fd ps []) (ha : VA X W os (e :: es) g os1) (hg : Gl X x := by rfl) (hdb : (x == ("__debug__" : Str)) = false := by decide)
    (he : starEach (e :: es) X.env = (false, eval e X.env) :: starEach es X.env := by rfl) (hpl : (backTo pos (starEach es X.env)).any (·.1) = false := by rfl) :
    VE X W os (.Call (.Name x p) (e :: es) [] pos) (eCall m g) os1 r := by
  obtain ⟨ta, pa, ka⟩ := ha
  refine ⟨_, pe_callS F hr hg hm hk hb (fun σ => passAt tk σ) pa hdb he hpl, fun S σ H ρ Q rel P => ?_⟩
  refine ka S σ H ρ _ rel (Post.seq P (fun z => z) (fun c fs p => p) fun ds ρ1 vs S1 H1 st1 rel1 q1 P1 => ?_)
  have P1 := P1.step RV.ok st1
  refine ⟨by rw [q1.1.length, q1.2]; rfl, S1, ds, rel_args q1.1 rel1.sub, ?_⟩
  dsimp only at P1
  cases hmd : m ds with
  | ok z =>
    rw [hmd] at P1
    intro v S' H' x q _
    have x' : Ext (fun _ => False) S1 H1 S' H' := x.weak fun _ z => own_nil z
    exact P1 v S' H' (Stp.of_ext x') (rel1.ext0 x') q
  | exc c fs =>
    rw [hmd] at P1
    exact fun S' H' cls dd x q => P1 S' H' cls dd (x.weak fun _ z => (own_nil z).elim) q
  | stuck => rw [hmd] at P1; exact P1.elim

/-! ### calls that turn what one name holds -/
/-- the arguments' list has at place k the owning slot i itself -/
def RLB (K : PySem.W.Frag) (σ : Sg) (n k i : Nat) : RR (List D) (List V) := fun _ S' _ vs ds => vs.length = n ∧ ds.length = n ∧ (∃ u, vs[k]? = some u ∧ σ[i]? = some (some u)) ∧ ∀ j d, j ≠ k → ds[j]? = some d → ∃ v, vs[j]? = some v ∧ At K S' v d
theorem RLB.ok {K : PySem.W.Frag} {σ : Sg} {n k i : Nat} : (RLB K σ n k i).Ok := fun _ _ _ _ _ _ _ q => q
def VB (X : Cx) (W : WX) (os : Os) (es : List Expr) (k i : Nat) (f : Rho → Out (List D × Rho)) (os' : Os) : Prop :=
  ∃ t, PA X es t ∧ ∀ S σ H ρ Q, Rel X.K S H os σ ρ → Post X W S H os σ os' (RLB X.K σ es.length k i) Q (f ρ) → t σ H Q
def aHole (g : Rho → Out (List D × Rho)) : Rho → Out (List D × Rho) := fun ρ => (g ρ).bind fun p => .ok (.non :: p.1, p.2)
theorem vb_here (i : Nat) {x : Str} (ha : VA X W os es g os1) (ho : os.getD i false = true := by rfl) (hN : X.N[i]? = some x := by rfl) (hv : Vis X.env.scope x := by first | exact Or.inl rfl | exact Or.inr (Or.inl rfl) | exact Or.inr (Or.inr rfl))
    (hd : (x == ("__debug__" : Str)) = false := by decide) (hcd : (x == ("__classdict__" : Str)) = false := by decide) (hs : starEach (.Name x p :: es) X.env = (false, eval (.Name x p) X.env) :: starEach es X.env := by rfl) :
    VB X W os (.Name x p :: es) 0 i (fun ρ => match ρ.getD i none with | some _ => aHole g ρ | none => .stuck) os1 := by
  obtain ⟨ta, pa, ka⟩ := ha
  refine ⟨_, pa_cons (pe_var hN hv hd hcd) pa hs, fun S σ H ρ Q rel P => ?_⟩
  cases h : ρ.getD i none with
  | none => dsimp only at P; rw [h] at P; exact P.elim
  | some d =>
    dsimp only at P; rw [h] at P
    have e : ρ[i]? = some (some d) := by
      cases q : ρ[i]? with
      | none => simp [List.getD, q] at h
      | some y => simp [List.getD, q] at h; rw [h]
    obtain ⟨v, ev, _⟩ := rel.own e ho
    refine ⟨v, ev, ?_⟩
    refine ka S σ H ρ _ rel (Post.seq P (fun z => z) (fun c fs p => p) fun ds ρ1 vs S1 H1 st1 rel1 q1 P1 => ?_)
    refine (P1.step RLB.ok st1).fin (os' := os1) rel1 ⟨by rw [List.length_cons, List.length_cons, q1.1.length, q1.2], by rw [List.length_cons, List.length_cons, q1.2], ⟨v, rfl, ev⟩, fun j d hj ed => ?_⟩
    cases j with
    | zero => exact (hj rfl).elim
    | succ j => exact q1.1.get (i := j) (by simpa using ed)
def eCallM (m : List D → Out (D × D)) (k i : Nat) (g : Rho → Out (List D × Rho)) : Rho → Out (D × Rho) := fun ρ => (g ρ).bind fun p => match p.2.getD i none with
  | some d => (m (p.1.set k d)).bind fun q => .ok (q.1, p.2.set i (some q.2))
  | none => .stuck
theorem osP_get {k j : Nat} : (osP (some k)).getD j false = true ↔ j = k := by
  unfold osP
  constructor
  · intro h
    by_cases h1 : j < k
    · simp [List.getD, List.getElem?_append, h1] at h
    · by_cases h2 : j = k
      · exact h2
      · rw [List.getD, List.getElem?_eq_none (by simp; omega)] at h; cases h
  · intro h
    subst h
    simp [List.getD]
theorem ve_callM {x : Str} {kk k i : Nat} {fa : Addr} {fd : FuncData} {ps : List Str} {m : List D → Out (D × D)} (F : FnOk X.prog X.w X.K X.mg X.base (L2.CX X.prog X.w) kk fa fd ps (spec X.K X.mg (es.length + 1) (some k) r m)) (tk : Takes X W)
    (hr : Room kk X.A) (hm : X.mg x = some (.ref fa)) (hk : PySem.W.keepIn X.K (.ref fa) = true) (hb : Binds X.K fd ps []) (ha : VB X W os (e :: es) k i g os1) (ho : os1.getD i false = true := by rfl) (hg : Gl X x := by rfl) (hdb : (x == ("__debug__" : Str)) = false := by decide)
    (he : starEach (e :: es) X.env = (false, eval e X.env) :: starEach es X.env := by rfl) (hpl : (backTo pos (starEach es X.env)).any (·.1) = false := by rfl) :
    VE X W os (.Call (.Name x p) (e :: es) [] pos) (eCallM m k i g) os1 r := by
  obtain ⟨ta, pa, ka⟩ := ha
  refine ⟨_, pe_callS F hr hg hm hk hb (fun σ => passAt tk σ) pa hdb he hpl, fun S σ H ρ Q rel P => ?_⟩
  refine ka S σ H ρ _ rel (Post.seq P (fun z => z) (fun c fs p => p) fun ds ρ1 vs S1 H1 st1 rel1 q1 P1 => ?_)
  have P1 := P1.step RV.ok st1
  obtain ⟨l1, l2, ⟨u, ku, eu⟩, q1⟩ := q1
  dsimp only at P1
  cases hd : ρ1.getD i none with
  | none => rw [hd] at P1; exact P1.elim
  | some d =>
    rw [hd] at P1
    dsimp only at P1
    have e1 : ρ1[i]? = some (some d) := by
      cases q : ρ1[i]? with
      | none => simp [List.getD, q] at hd
      | some y => simp [List.getD, q] at hd; rw [hd]
    obtain ⟨u', eu', hown⟩ := rel1.own e1 ho
    have eqq := eu.symm.trans eu'
    cases eqq
    have hkl : k < ds.length := by rw [l2, ← l1]; exact (List.getElem?_eq_some_iff.mp ku).1
    refine ⟨l1, S1, ds.set k d, ⟨rel1.sub, by rw [List.length_map, List.length_map, List.length_set, l1, l2], fun j x y e1 e2 => ?_, fun j j' a h1 h2 _ _ => by rw [osP_get.mp h1, osP_get.mp h2]⟩, ?_⟩
    · rw [List.getElem?_map] at e1 e2
      by_cases hj : j = k
      · subst hj
        rw [osP_get.mpr rfl]
        rw [ku] at e1
        rw [List.getElem?_set_self hkl] at e2
        cases e1; cases e2
        exact hown
      · have hf : (osP (some k)).getD j false = false := by
          cases h : (osP (some k)).getD j false
          · rfl
          · exact (hj (osP_get.mp h)).elim
        rw [hf]
        rw [List.getElem?_set_ne (fun z => hj z.symm)] at e2
        cases ed : ds[j]? with
        | none => rw [ed] at e2; cases e2
        | some d' =>
          obtain ⟨v, ev, hat⟩ := q1 j d' hj ed
          rw [ed] at e2; rw [ev] at e1
          cases e1; cases e2
          exact hat
    · have conv : ∀ a, Own (osP (some k)) (vs.map some) a → σ[i]? = some (some (.ref a)) := fun a ⟨j, h1, h2⟩ => by
        have hj := osP_get.mp h1
        subst hj
        rw [List.getElem?_map, ku] at h2
        have h3 : u = .ref a := by simpa using h2
        rw [eu, h3]
      have hsub : ∀ a, Own (osP (some k)) (vs.map some) a → Own os1 σ a := fun a h => ⟨i, ho, conv a h⟩
      cases hmd : m (ds.set k d) with
      | ok z =>
        rw [hmd] at P1
        intro v S' H' x q qo
        have qo := qo k u rfl ku
        refine P1 v S' H' ⟨x.weak hsub, fun _ q => .inl q⟩ ⟨x.sh, by rw [List.length_set]; exact rel1.len, fun j xx yy e1 e2 => ?_, rel1.sep⟩ q
        by_cases hj : i = j
        · subst hj
          have hl : i < ρ1.length := by
            have := (List.getElem?_eq_some_iff.mp e2).1
            rwa [List.length_set] at this
          rw [List.getElem?_set_self hl] at e2
          rw [eu] at e1
          cases e1; cases e2
          rw [ho]; exact qo
        · rw [List.getElem?_set_ne hj] at e2
          have qq := rel1.slot j xx yy e1 e2
          cases hoj : os1.getD j false <;> rw [hoj] at qq <;> cases xx <;> cases yy <;> simp only [SlotAt] at qq ⊢
          · exact qq.mono x.s
          · refine qq.ext x fun a ea hz => hj (rel1.sep i j a ho hoj (conv a hz) (by rw [e1, ea]))
      | exc c fs =>
        rw [hmd] at P1
        exact fun S' H' cls dd x q => P1 S' H' cls dd (x.weak hsub) q
      | stuck => rw [hmd] at P1; exact P1.elim
end
end SW

set_option maxRecDepth 100000
/-! SW4: statements: what is wanted behind them (PostS), the judgement VS, blocks, if, return, assignments, targets, a def by its body. -/
namespace SW
open PySem PySem.Spec PyProof.Rows L2

inductive Fl where
  | nx (ρ : Rho) | rt (d : D) (ρ : Rho) | bk (ρ : Rho) | ct (ρ : Rho)

/-- the slots that no statement stores -/
def FixOn (fx : Os) (σ σ' : Sg) : Prop := σ'.length = σ.length ∧ ∀ i, fx.getD i false = true → σ'[i]? = σ[i]?
theorem FixOn.refl {fx : Os} {σ : Sg} : FixOn fx σ σ := ⟨rfl, fun _ _ => rfl⟩
theorem FixOn.trans {fx : Os} {σ σ1 σ2 : Sg} (a : FixOn fx σ σ1) (b : FixOn fx σ1 σ2) : FixOn fx σ σ2 := ⟨b.1.trans a.1, fun i h => (b.2 i h).trans (a.2 i h)⟩

/-- a loop's and a def's own: where break and continue lead, what is told, which slots are fixed -/
structure Lc where
  fx : Os
  bk : Os
  ct : Os
  r : Bool
  /-- the turned parameters -/
  px : Os
  sub : ∀ i, px.getD i false = true → fx.getD i false = true

def RetAt (K : PySem.W.Frag) (r : Bool) (os : Os) (σ : Sg) (fx : Os) (H S' H' : Hp) (v : V) (d : D) : Prop :=
  if r = true then OwnAt K S' H' v d ∧ (∀ a, v = .ref a → H a = none ∨ Own os σ a) ∧ (∀ i, fx.getD i false = true → σ[i]? ≠ some (some v)) else At K S' v d

def PostS (X : Cx) (W : WX) (L : Lc) (S H : Hp) (os : Os) (σ : Sg) (osN : Os) (Ds : Ends) : Out Fl → Prop
  | .ok (.nx ρ') => ∀ σ' S' H', Stp os σ S H osN σ' S' H' → FixOn L.fx σ σ' → Rel X.K S' H' osN σ' ρ' → Ds.nx σ' H'
  | .ok (.bk ρ') => ∀ σ' S' H', Stp os σ S H L.bk σ' S' H' → FixOn L.fx σ σ' → Rel X.K S' H' L.bk σ' ρ' → Ds.bk σ' H'
  | .ok (.ct ρ') => ∀ σ' S' H', Stp os σ S H L.ct σ' S' H' → FixOn L.fx σ σ' → Rel X.K S' H' L.ct σ' ρ' → Ds.ct σ' H'
  | .ok (.rt d ρ') => ∀ v S' H', Ext (Own os σ) S H S' H' → RetAt X.K L.r os σ L.px H S' H' v d →
      (∀ i u, L.px.getD i false = true → σ[i]? = some (some u) → ∃ d', ρ'[i]? = some (some d') ∧ OwnAt X.K S' H' u d') → Ds.rt v H'
  | .exc c fs => ∀ σ' S' H' cls dd, Ext (Own os σ) S H S' H' → ExcAt X.K X.mg S' c fs cls dd → W cls dd σ' H'
  | .stuck => False

def VS (X : Cx) (W : WX) (L : Lc) (os : Os) (st : Stmt) (g : Rho → Out Fl) (osN : Os) : Prop :=
  ∃ t, PS X st t ∧ ∀ S σ H ρ Ds, Rel X.K S H os σ ρ → PostS X W L S H os σ osN Ds (g ρ) → t Ds σ H
def VSs (X : Cx) (W : WX) (L : Lc) (os : Os) (st : List Stmt) (g : Rho → Out Fl) (osN : Os) : Prop :=
  ∃ t, PSs X st t ∧ ∀ S σ H ρ Ds, Rel X.K S H os σ ρ → PostS X W L S H os σ osN Ds (g ρ) → t Ds σ H

section
variable {X : Cx} {W : WX} {L : Lc} {S H S1 H1 : Hp} {os os1 os2 osN : Os} {σ σ1 : Sg} {Ds : Ends}
theorem PostS.step {x : Out Fl} (p : PostS X W L S H os σ osN Ds x) (s : Stp os σ S H os1 σ1 S1 H1) (f : FixOn L.fx σ σ1) : PostS X W L S1 H1 os1 σ1 osN Ds x := by
  cases x with
  | ok z =>
    cases z with
    | nx ρ' => exact fun σ' S' H' s' f' r => p σ' S' H' (s.trans s') (f.trans f') r
    | bk ρ' => exact fun σ' S' H' s' f' r => p σ' S' H' (s.trans s') (f.trans f') r
    | ct ρ' => exact fun σ' S' H' s' f' r => p σ' S' H' (s.trans s') (f.trans f') r
    | rt d ρ' =>
      refine fun v S' H' e r hk => p v S' H' (s.ext.trans e s.own) ?_ fun i u hf hs => hk i u hf (by rw [f.2 i (L.sub i hf)]; exact hs)
      unfold RetAt at r ⊢
      split
      · rename_i hr
        rw [if_pos hr] at r
        refine ⟨r.1, fun a ea => ?_, fun i hf => ?_⟩
        · rcases r.2.1 a ea with q | q
          · exact .inl (s.ext.there a q)
          · exact (s.own a q).symm
        · rw [← f.2 i (L.sub i hf)]; exact r.2.2 i hf
      · rename_i hr
        rw [if_neg hr] at r
        exact r
  | exc c fs => exact fun σ' S' H' cls dd e q => p σ' S' H' cls dd (s.ext.trans e s.own) q
  | stuck => exact p
/-- an expression's outcome ahead of a statement's -/
theorem PostS.seqE {α β : Type} {R : RR α β} {Q : β → Hp → Prop} {x : Out (α × Rho)} {k : α × Rho → Out Fl} (P : PostS X W L S H os σ osN Ds (x.bind k))
    (h : ∀ d ρ1 b S1 H1, Stp os σ S H os1 σ S1 H1 → Rel X.K S1 H1 os1 σ ρ1 → R H S1 H1 b d → PostS X W L S1 H1 os1 σ osN Ds (k (d, ρ1)) → Q b H1) : Post X W S H os σ os1 R Q x :=
  Post.seq P (fun z => z) (fun _ _ p S' H' cls dd e q => p σ S' H' cls dd e q) fun d ρ1 b S1 H1 st rel q P => h d ρ1 b S1 H1 st rel q (PostS.step P st FixOn.refl)
theorem PostS.fin {ρ : Rho} (P : PostS X W L S H os σ os Ds (.ok (.nx ρ))) (rel : Rel X.K S H os σ ρ) : Ds.nx σ H := P σ S H (Stp.refl rel.sub) FixOn.refl rel
/-- a statement's outcome ahead of others -/
theorem PostS.seqS {x : Out Fl} {k : Rho → Out Fl} {N : L2.St → Hp → Prop} (P : PostS X W L S H os σ osN Ds (x.bind fun y => match y with | .nx ρ => k ρ | y => .ok y))
    (h : ∀ ρ1 σ1 S1 H1, Stp os σ S H os1 σ1 S1 H1 → FixOn L.fx σ σ1 → Rel X.K S1 H1 os1 σ1 ρ1 → PostS X W L S1 H1 os1 σ1 osN Ds (k ρ1) → N σ1 H1) : PostS X W L S H os σ os1 { Ds with nx := N } x := by
  cases x with
  | ok z =>
    cases z with
    | nx ρ' => exact fun σ' S' H' s' f' r => h ρ' σ' S' H' s' f' r (P.step s' f')
    | bk ρ' => exact P
    | ct ρ' => exact P
    | rt d ρ' => exact P
  | exc c fs => exact P
  | stuck => exact P
end

/-! ### the plain functions -/
def sSkip : Rho → Out Fl := fun ρ => .ok (.nx ρ)
def sSeq (g h : Rho → Out Fl) : Rho → Out Fl := fun ρ => (g ρ).bind fun y => match y with
  | .nx ρ => h ρ
  | y => .ok y
def sExpr (f : Rho → Out (D × Rho)) : Rho → Out Fl := fun ρ => (f ρ).bind fun p => .ok (.nx p.2)
def sRet (f : Rho → Out (D × Rho)) : Rho → Out Fl := fun ρ => (f ρ).bind fun p => .ok (.rt p.1 p.2)
def sRetN : Rho → Out Fl := fun ρ => .ok (.rt .non ρ)
def sIf (c : Rho → Out (Bool × Rho)) (g h : Rho → Out Fl) : Rho → Out Fl := fun ρ => (c ρ).bind fun p => if p.1 = true then g p.2 else h p.2
def sSet (i : Nat) (f : Rho → Out (D × Rho)) : Rho → Out Fl := fun ρ => (f ρ).bind fun p => .ok (.nx (p.2.set i (some p.1)))
def sStuck : Rho → Out Fl := fun _ => .stuck

section
variable {X : Cx} {W : WX} {L : Lc} {os os1 os2 os3 osN : Os} {e e1 e2 : Expr} {f f1 f2 : Rho → Out (D × Rho)} {pos p : Pos} {st : Stmt} {sts rest : List Stmt} {g h : Rho → Out Fl}
theorem vss_nil : VSs X W L os [] sSkip os := ⟨_, pss_nil, fun S σ H ρ Ds rel P => P.fin rel⟩
theorem vss_cons (a : VS X W L os st g os1) (b : VSs X W L os1 rest h os2) : VSs X W L os (st :: rest) (sSeq g h) os2 := by
  obtain ⟨t, pt, kt⟩ := a
  obtain ⟨u, pu, ku⟩ := b
  refine ⟨_, pss_cons pt pu, fun S σ H ρ Ds rel P => ?_⟩
  exact kt S σ H ρ _ rel (PostS.seqS P fun ρ1 σ1 S1 H1 s1 f1 r1 P1 => ku S1 σ1 H1 ρ1 Ds r1 P1)
theorem vss_one (a : VS X W L os st g os1) : VSs X W L os [st] g os1 := by
  obtain ⟨t, pt, kt⟩ := a
  exact ⟨t, pss_one pt, kt⟩
theorem vs_stuck : VS X W L os st sStuck osN := ⟨_, ps_never, fun _ _ _ _ _ _ P => P⟩
theorem vs_expr {r : Bool} (he : VE X W os e f os1 r) (hs : swapsWith e none pos.line X.env = pure false := by rfl) : VS X W L os (.Expr e pos) (sExpr f) os1 := by
  obtain ⟨t, pt, kt⟩ := he
  refine ⟨_, ps_expr pt hs, fun S σ H ρ Ds rel P => ?_⟩
  exact kt S σ H ρ _ rel (PostS.seqE P fun d ρ1 v S1 H1 s1 r1 q1 P1 => P1.fin r1)
theorem fix_end {σ : Sg} {S H : Hp} {ρ : Rho} {fx : Os} (rel : Rel X.K S H os σ ρ) (hf : Le fx os) : ∀ i u, fx.getD i false = true → σ[i]? = some (some u) → ∃ d', ρ[i]? = some (some d') ∧ OwnAt X.K S H u d' := fun i u h hs => by
  have ho := getD_le hf h
  have hl : i < ρ.length := by rw [← rel.len]; exact (List.getElem?_eq_some_iff.mp hs).1
  have q := rel.slot i _ _ hs (List.getElem?_eq_getElem hl)
  rw [ho] at q
  cases ed : ρ[i] with
  | none => rw [ed] at q; exact q.elim
  | some d => rw [ed] at q; exact ⟨d, by rw [List.getElem?_eq_getElem hl, ed], q⟩
theorem vs_ret (he : VE X W os e f os1 false) (hr : L.r = false := by rfl) (hf : Le L.px os1 := by rfl) : VS X W L os (.Return (some e) pos) (sRet f) osN := by
  obtain ⟨t, pt, kt⟩ := he
  refine ⟨_, ps_ret pt, fun S σ H ρ Ds rel P => ?_⟩
  refine kt S σ H ρ _ rel (PostS.seqE P fun d ρ1 v S1 H1 s1 r1 q1 P1 => ?_)
  exact P1 v S1 H1 (Ext.refl r1.sub) (by unfold RetAt; rw [hr]; exact q1) (fix_end r1 hf)
theorem vs_retO (he : VE X W os e f os1 true) (hr : L.r = true := by rfl) (hf : Le L.px os1 := by rfl) (hf0 : Le L.px os := by rfl) : VS X W L os (.Return (some e) pos) (sRet f) osN := by
  obtain ⟨t, pt, kt⟩ := he
  refine ⟨_, ps_ret pt, fun S σ H ρ Ds rel P => ?_⟩
  refine kt S σ H ρ _ rel (Post.seq P (fun z => z) (fun _ _ p S' H' cls dd e q => p σ S' H' cls dd e q) fun d ρ1 v S1 H1 s1 r1 q1 P1 => ?_)
  refine P1 v S1 H1 s1.ext ?_ (fix_end r1 hf)
  unfold RetAt
  rw [hr]
  refine ⟨q1.1, fun a ea => .inl (q1.2 a ea), fun i hi hs => ?_⟩
  obtain ⟨a, o, ea, na, _⟩ := OwnAt.some_ q1.1
  subst ea
  obtain ⟨n, o, eo⟩ := rel.owned ⟨i, getD_le hf0 hi, hs⟩
  rw [q1.2 a rfl] at eo
  cases eo
/-- what an owning name holds is told -/
theorem vs_retV (i : Nat) {x : Str} (ho : os.getD i false = true := by rfl) (hr : L.r = true := by rfl) (hf : Le L.px os := by rfl) (hfi : L.px.getD i false = false := by rfl) (hN : X.N[i]? = some x := by rfl)
    (hv : Vis X.env.scope x := by first | exact Or.inl rfl | exact Or.inr (Or.inl rfl) | exact Or.inr (Or.inr rfl)) (hd : (x == ("__debug__" : Str)) = false := by decide) (hcd : (x == ("__classdict__" : Str)) = false := by decide) :
    VS X W L os (.Return (some (.Name x p)) pos) (sRet (eVar i)) osN := by
  refine ⟨_, ps_ret (pe_var hN hv hd hcd), fun S σ H ρ Ds rel P => ?_⟩
  unfold sRet eVar at P
  cases h : ρ.getD i none with
  | none => rw [h] at P; exact P.elim
  | some d =>
    rw [h] at P
    have e : ρ[i]? = some (some d) := by
      cases q : ρ[i]? with
      | none => simp [List.getD, q] at h
      | some y => simp [List.getD, q] at h; rw [h]
    obtain ⟨v, ev, q⟩ := rel.own e ho
    refine ⟨v, ev, P v S H (Ext.refl rel.sub) ?_ (fix_end rel hf)⟩
    unfold RetAt
    rw [hr]
    refine ⟨q, fun a ea => .inr ⟨i, ho, by rw [ev, ea]⟩, fun j hj hs => ?_⟩
    obtain ⟨a, o, ea, _⟩ := OwnAt.some_ q
    have hij : i = j := rel.sep i j a ho (getD_le hf hj) (by rw [ev, ea]) (by rw [hs, ea])
    rw [← hij, hfi] at hj
    cases hj
theorem vs_if {c : Expr} {a b : List Stmt} {gc : Rho → Out (Bool × Rho)} (hc : VT X W os c gc os1) (ha : VSs X W L os1 a g os2) (hb : VSs X W L os1 b h os2) : VS X W L os (.If c a b pos) (sIf gc g h) os2 := by
  obtain ⟨t, p, k⟩ := hc
  obtain ⟨ta, pa, ka⟩ := ha
  obtain ⟨tb, pb, kb⟩ := hb
  refine ⟨_, ps_if p pa pb, fun S σ H ρ Ds rel P => ?_⟩
  refine k S σ H ρ _ rel (PostS.seqE P fun d ρ1 v S1 H1 st1 rel1 q1 P1 => ?_)
  cases q1
  cases d with
  | true => exact ka S1 σ H1 ρ1 Ds rel1 P1
  | false => exact kb S1 σ H1 ρ1 Ds rel1 P1
theorem fix_set {fx : Os} {σ : Sg} {i : Nat} {v : Option V} (h : fx.getD i false = false) : FixOn fx σ (σ.set i v) := ⟨List.length_set, fun j hj => by
  have e : i ≠ j := fun z => by rw [← z, h] at hj; cases hj
  rw [List.getElem?_set_ne e]⟩
/-- x = e -/
theorem vs_set (i : Nat) {x : Str} (he : VE X W os e f os1 false) (hN : X.N.Nodup) (hi : X.N[i]? = some x := by rfl) (hx : Loc X.env.scope x := by first | exact Or.inl rfl | exact Or.inr rfl) (hfi : L.fx.getD i false = false := by rfl)
    (hs : swapsWith e (some (.Name x p)) pos.line X.env = pure false := by rfl) (hf : X.fn x = true ∨ X.env.scope.names.lookup x = some .local := by first | exact .inl rfl | exact .inr rfl | assumption) : VS X W L os (.Assign [.Name x p] e pos) (sSet i f) (os1.set i false) := by
  obtain ⟨t, pt, kt⟩ := he
  refine ⟨_, ps_set hN hi hx pt hs hf, fun S σ H ρ Ds rel P => ?_⟩
  refine kt S σ H ρ _ rel (PostS.seqE P fun d ρ1 v S1 H1 s1 r1 q1 P1 => ?_)
  exact P1 _ S1 H1 ⟨Ext.refl r1.sub, fun a q => .inl (own_set q)⟩ (fix_set hfi) (r1.set q1 i)
/-- x = e, x the owner of the new list or dict -/
theorem vs_setO (i : Nat) {x : Str} (he : VE X W os e f os1 true) (hN : X.N.Nodup) (hi : X.N[i]? = some x := by rfl) (hx : Loc X.env.scope x := by first | exact Or.inl rfl | exact Or.inr rfl) (hfi : L.fx.getD i false = false := by rfl) (hio : i < os1.length := by decide) (hle : Le os1 os := by rfl)
    (hs : swapsWith e (some (.Name x p)) pos.line X.env = pure false := by rfl) (hf : X.fn x = true ∨ X.env.scope.names.lookup x = some .local := by first | exact .inl rfl | exact .inr rfl | assumption) : VS X W L os (.Assign [.Name x p] e pos) (sSet i f) (os1.set i true) := by
  obtain ⟨t, pt, kt⟩ := he
  refine ⟨_, ps_set hN hi hx pt hs hf, fun S σ H ρ Ds rel P => ?_⟩
  refine kt S σ H ρ _ rel (Post.seq P (fun z => z) (fun _ _ p S' H' cls dd e q => p σ S' H' cls dd e q) fun d ρ1 v S1 H1 s1 r1 q1 P1 => ?_)
  refine P1 _ S1 H1 ⟨s1.ext, fun a q => ?_⟩ (fix_set hfi) (r1.setO q1.1 (fun a ea j hj ho hs => ?_) hio)
  · rcases own_setO q with q | q
    · exact s1.own a q
    · exact .inr (q1.2 a q)
  · obtain ⟨n, o, eo⟩ := rel.owned ⟨j, getD_le hle ho, hs⟩
    rw [q1.2 a ea] at eo
    cases eo

/-! ### targets of any form -/
/-- only the slots of ch are stored -/
def ChOn (ch : List Nat) (σ σ' : Sg) : Prop := σ'.length = σ.length ∧ ∀ i, i ∉ ch → σ'[i]? = σ[i]?
theorem ChOn.fix {ch : List Nat} {σ σ' : Sg} {fx : Os} (h : ChOn ch σ σ') (hf : ch.all (fun i => !fx.getD i false) = true) : FixOn fx σ σ' := ⟨h.1, fun i hi => h.2 i fun hm => by
  have q := List.all_eq_true.mp hf i hm
  rw [hi] at q
  cases q⟩
def VG (X : Cx) (os : Os) (tg : Expr) (b : D → Rho → Option Rho) (ch : List Nat) (os' : Os) : Prop :=
  ∃ t, PG X tg t ∧ ∀ S σ H ρ v d ρ' Q, Rel X.K S H os σ ρ → At X.K S v d → b d ρ = some ρ' → (∀ σ', Rel X.K S H os' σ' ρ' → ChOn ch σ σ' → (∀ a, Own os' σ' a → Own os σ a) → Q σ' H) → t v σ H Q
def VGs (X : Cx) (os : Os) (tgs : List Expr) (b : List D → Rho → Option Rho) (ch : List Nat) (os' : Os) : Prop :=
  ∃ t, PGs X tgs t ∧ ∀ S σ H ρ vs ds ρ' Q, Rel X.K S H os σ ρ → AtL X.K S vs ds → b ds ρ = some ρ' → (∀ σ', Rel X.K S H os' σ' ρ' → ChOn ch σ σ' → (∀ a, Own os' σ' a → Own os σ a) → Q σ' H) → t vs σ H Q
def gName (i : Nat) : D → Rho → Option Rho := fun d ρ => some (ρ.set i (some d))
def gNil : List D → Rho → Option Rho := fun ds ρ => match ds with
  | [] => some ρ
  | _ => none
def gCons (b : D → Rho → Option Rho) (c : List D → Rho → Option Rho) : List D → Rho → Option Rho := fun ds ρ => match ds with
  | d :: r => (b d ρ).bind fun ρ1 => c r ρ1
  | [] => none
def gTup (n : Nat) (c : List D → Rho → Option Rho) : D → Rho → Option Rho := fun d ρ => match d with
  | .tup ds => if ds.length = n then c ds ρ else none
  | .lst ds => if ds.length = n then c ds ρ else none
  | _ => none
theorem pg_or {e : Expr} {t1 t2 : TG} (h1 : PG X e t1) (h2 : PG X e t2) : PG X e (fun v σ H Q => t1 v σ H Q ∨ t2 v σ H Q) := ⟨fun pins s σ H v u Q I r q => q.elim (h1.run pins s σ H v u Q I r) (h2.run pins s σ H v u Q I r)⟩
variable {ch ch2 : List Nat}
theorem vg_name (i : Nat) {x : Str} (hN : X.N.Nodup) (hi : X.N[i]? = some x := by rfl) (hx : Loc X.env.scope x := by first | exact Or.inl rfl | exact Or.inr rfl)
    (hf : X.fn x = true ∨ X.env.scope.names.lookup x = some .local := by first | exact .inl rfl | exact .inr rfl | assumption) : VG X os (.Name x p) (gName i) [i] (os.set i false) :=
  ⟨_, pg_name hN hi hx hf, fun S σ H ρ v d ρ' Q rel hv hb hq => by
    cases hb
    exact hq _ (rel.set hv i) ⟨List.length_set, fun j hj => List.getElem?_set_ne fun z => hj (by simp [z])⟩ fun a q => own_set q⟩
theorem vgs_nil : VGs X os [] gNil [] os := ⟨_, pgs_nil, fun S σ H ρ vs ds ρ' Q rel hv hb hq => by
  cases hv with
  | nil => cases hb; exact ⟨rfl, hq σ rel ⟨rfl, fun _ _ => rfl⟩ fun _ q => q⟩
  | cons _ _ => cases hb⟩
theorem vgs_cons {tg : Expr} {tgs : List Expr} {b : D → Rho → Option Rho} {c : List D → Rho → Option Rho} (h1 : VG X os tg b ch os1) (h2 : VGs X os1 tgs c ch2 os2)
    (hs : (assignEach (tg :: tgs) X.env).map (·.2) = assign tg X.env :: (assignEach tgs X.env).map (·.2) := by rfl) : VGs X os (tg :: tgs) (gCons b c) (ch ++ ch2) os2 := by
  obtain ⟨t, pt, kt⟩ := h1
  obtain ⟨u, pu, ku⟩ := h2
  refine ⟨_, pgs_cons pt pu hs, fun S σ H ρ vs ds ρ' Q rel hv hb hq => ?_⟩
  cases hv with
  | nil => cases hb
  | @cons v vs d ds h r =>
    have hb : (b d ρ).bind (fun ρ1 => c ds ρ1) = some ρ' := hb
    cases e1 : b d ρ with
    | none => rw [e1] at hb; cases hb
    | some ρ1 =>
      rw [e1] at hb
      refine ⟨v, vs, rfl, kt S σ H ρ v d ρ1 _ rel h e1 fun σ1 rel1 f1 o1 => ?_⟩
      exact ku S σ1 H ρ1 vs ds ρ' _ rel1 r hb fun σ2 rel2 f2 o2 => hq σ2 rel2 ⟨f2.1.trans f1.1, fun i hi => (f2.2 i fun z => hi (List.mem_append_right _ z)).trans (f1.2 i fun z => hi (List.mem_append_left _ z))⟩ fun a q => o1 a (o2 a q)
theorem vg_tup {es : List Expr} {k : Nat} {c : List D → Rho → Option Rho} (h : VGs X os es c ch os1) (hc : X.calm = true := by rfl) (hn : (assignEach es X.env).length = es.length := by rfl) (hst : (assignEach es X.env).findIdx? (·.1) = none := by rfl) :
    VG X os (.Tuple es k p) (gTup es.length c) ch os1 := by
  obtain ⟨t, pt, kt⟩ := h
  refine ⟨_, pg_or (pg_tup hc pt hn hst) (pg_unl hc pt hn hst), fun S σ H ρ v d ρ' Q rel hv hb hq => ?_⟩
  cases hv with
  | @lst a vs ds hs z r =>
    have hb : (if ds.length = es.length then c ds ρ else none) = some ρ' := hb
    split at hb
    · rename_i hl
      exact .inr ⟨a, vs, rfl, .of (rel.sub _ _ hs), by rw [r.length, hl], kt S σ H ρ vs ds ρ' Q rel r hb hq⟩
    · cases hb
  | @tup a vs ds hs z r =>
    have hb : (if ds.length = es.length then c ds ρ else none) = some ρ' := hb
    split at hb
    · rename_i hl
      exact .inl ⟨a, vs, rfl, sqT_mono rel.sub hs, by rw [r.length, hl], kt S σ H ρ vs ds ρ' Q rel r hb hq⟩
    · cases hb
  | _ => cases hb
def sBind (b : D → Rho → Option Rho) (f : Rho → Out (D × Rho)) : Rho → Out Fl := fun ρ => (f ρ).bind fun p => match b p.1 p.2 with
  | some ρ' => .ok (.nx ρ')
  | none => .stuck
def sPar (i j : Nat) (g : Rho → Out (List D × Rho)) : Rho → Out Fl := fun ρ => (g ρ).bind fun p => match p.1 with
  | [a, b] => .ok (.nx ((p.2.set i (some a)).set j (some b)))
  | _ => .stuck
/-- a, b = c, d (two plain local names) -/
theorem vs_par (i j : Nat) {x y : Str} {a b : Expr} {px py pt pt2 : Pos} {kt k2} {g : Rho → Out (List D × Rho)} (ha : VA X W os [a, b] g os1) (hN : X.N.Nodup) (hc : X.calm = true := by rfl) (hi : X.N[i]? = some x := by rfl) (hj : X.N[j]? = some y := by rfl) (hij : i ≠ j := by decide)
    (hx : X.env.scope.names.lookup x = some .local := by rfl) (hy : X.env.scope.names.lookup y = some .local := by rfl) (hfi : L.fx.getD i false = false := by rfl) (hfj : L.fx.getD j false = false := by rfl)
    (hw : swappedStores [.Tuple [.Name x px, .Name y py] kt pt] (.Tuple [a, b] k2 pt2) X.env = pure (some [x, y]) := by rfl)
    (hs : swapsWithSole [.Tuple [.Name x px, .Name y py] kt pt] (.Tuple [a, b] k2 pt2) pos.line X.env = pure false := by rfl) :
    VS X W L os (.Assign [.Tuple [.Name x px, .Name y py] kt pt] (.Tuple [a, b] k2 pt2) pos) (sPar i j g) ((os1.set i false).set j false) := by
  obtain ⟨t, pa, ka⟩ := ha
  refine ⟨_, ps_par hc hN hi hj hij hx hy pa hw hs, fun S σ H ρ Ds rel P => ?_⟩
  refine ka S σ H ρ _ rel (PostS.seqE P fun ds ρ1 vs S1 H1 s1 r1 q1 P1 => ?_)
  obtain ⟨q1, l1⟩ := q1
  match ds, vs, q1, P1 with
  | [d1, d2], [v1, v2], .cons h1 (.cons h2 .nil), P1 =>
    refine ⟨v1, v2, rfl, P1 _ S1 H1 ⟨Ext.refl r1.sub, fun a q => .inl (own_set (own_set q))⟩ ((fix_set hfi).trans (fix_set hfj)) ((r1.set h1 i).set h2 j)⟩
end

/-! ### a def by its body -/
def m0 (ρ : Rho) (pm : Option Nat) : D := match pm with
  | none => .non
  | some k => (ρ.getD k none).getD .non
/-- n names; pm: the turned parameter -/
def runF (n : Nat) (pm : Option Nat) (g : Rho → Out Fl) : List D → Out (D × D) := fun ds => match g (ds.map some ++ List.replicate (n - ds.length) none) with
  | .ok (.nx ρ) => .ok (.non, m0 ρ pm)
  | .ok (.rt d ρ) => .ok (d, m0 ρ pm)
  | .exc c fs => .exc c fs
  | _ => .stuck
theorem rel_start {K : PySem.W.Frag} {S H : Hp} {pm : Option Nat} {vs : List V} {ds : List D} {N : List Str} {os : Os} (r : Rel K S H (osP pm) (vs.map some) (ds.map some)) (ho : ∀ i, os.getD i false = (osP pm).getD i false) : Rel K S H os (start N vs) (ds.map some ++ List.replicate (N.length - ds.length) none) := by
  have hl : vs.length = ds.length := by simpa using r.len
  have cut : ∀ {α : Type} {l : List (Option α)} {m i : Nat} {x : Option α}, (l ++ List.replicate m none)[i]? = some x → (l[i]? = some x) ∨ (l.length ≤ i ∧ x = none) := fun {α l m i x} h => by
    by_cases hi : i < l.length
    · rw [List.getElem?_append_left hi] at h; exact .inl h
    · rw [List.getElem?_append_right (by omega), List.getElem?_replicate] at h
      split at h
      · cases h; exact .inr ⟨by omega, rfl⟩
      · cases h
  refine ⟨r.sub, ?_, fun i x y e1 e2 => ?_, fun i j a h1 h2 e1 e2 => ?_⟩
  · unfold L2.start; rw [List.length_append, List.length_append, List.length_map, List.length_map, List.length_replicate, List.length_replicate, hl]
  · unfold L2.start at e1
    rw [ho]
    rcases cut e1 with q1 | ⟨q1, rfl⟩
    · rcases cut e2 with q2 | ⟨q2, rfl⟩
      · exact r.slot i x y q1 q2
      · have := (List.getElem?_eq_some_iff.mp q1).1
        rw [List.length_map] at this q2
        omega
    · rcases cut e2 with q2 | ⟨q2, rfl⟩
      · have := (List.getElem?_eq_some_iff.mp q2).1
        rw [List.length_map] at this q1
        omega
      · cases (osP pm).getD i false <;> trivial
  · unfold L2.start at e1 e2
    rw [ho] at h1 h2
    rcases cut e1 with q1 | ⟨_, q1⟩
    · rcases cut e2 with q2 | ⟨_, q2⟩
      · exact r.sep i j a h1 h2 q1 q2
      · cases q2
    · cases q1
theorem own_start {pm : Option Nat} {vs : List V} {N : List Str} {os : Os} {a : Addr} (ho : ∀ i, os.getD i false = (osP pm).getD i false) (h : Own os (start N vs) a) : Own (osP pm) (vs.map some) a := by
  obtain ⟨i, h1, h2⟩ := h
  rw [ho] at h1
  refine ⟨i, h1, ?_⟩
  unfold L2.start at h2
  by_cases hi : i < (vs.map some).length
  · rw [List.getElem?_append_left hi] at h2; exact h2
  · rw [List.getElem?_append_right (by omega), List.getElem?_replicate] at h2
    split at h2 <;> cases h2
section
variable {P : Program} {w : World} {K : PySem.W.Frag} {mg : Str → Option Value} {base : Heap}
/-- THE RULE: a def's promise by its body's judgement -/
theorem fn_by {x qual : Str} {st : Stmt} {f : Addr} {fd : FuncData} {N ps : List Str} {k n : Nat} {pm : Option Nat} {r : Bool} {g : Rho → Out Fl} {os osN : Os} (F : Fun K x qual st f fd) (Sc : FnScope N ps (defScope st)) (hn : n = ps.length) (hr0 : r = true → osN = osN)
    (ho : ∀ i, os.getD i false = (osP pm).getD i false) (hNl : Le (osP pm) osN) (hnr : r = false ∨ ∀ ρ ρ', g ρ ≠ .ok (.nx ρ'))
    (body : ∀ (cdv : Value) (A : Around) (outer : List Env) (s : Shared) (H : Hp) (E : XK), Room k (A.deeper (envOfC qual (defScope st) s.heap.objs.size f cdv)) →
      ∀ (X : Cx), X = cxOf (L2.CX P w) P w K mg base N qual (defScope st) f cdv A outer s H E → Takes X (fun cls d _ H' => E cls d H') → PassesOwn (model X.prog X.w) X.A X.env X.xe →
      VSs X (fun cls d _ H' => E cls d H') ⟨osP pm, [], [], r, osP pm, fun _ h => h⟩ os (defBody st) g osN) :
    FnOk P w K mg base (L2.CX P w) (k + 1) f fd ps (spec K mg n pm r (runF N.length pm g)) := by
  refine F.okX Sc (fun vs H Q E h => by rw [h.1, hn]) (fun cdv A outer s H vs Q E hr h => ?_)
  obtain ⟨hl, S, ds, rel, h⟩ := h
  obtain ⟨t, pt, kt⟩ := body cdv A outer s H E hr _ rfl (takes_of rfl rfl rfl rfl) (passes_of rfl)
  refine ⟨t, pt, kt S _ H _ _ (rel_start (N := N) rel ho) ?_⟩
  have hvl : vs.length = ds.length := by simpa using rel.len
  unfold runF at h
  cases e : g (ds.map some ++ List.replicate (N.length - ds.length) none) with
  | exc c fs =>
    rw [e] at h
    exact fun σ' S' H' cls dd x q => h S' H' cls dd (x.weak fun a q => own_start ho q) q
  | stuck => rw [e] at h; exact h.elim
  | ok z =>
    rw [e] at h
    -- what the turned parameter holds at the end
    have hm : ∀ (ρ : Rho) (σ : Sg) (S' H' : Hp), (∀ i u, (osP pm).getD i false = true → σ[i]? = some (some u) → ∃ d', ρ[i]? = some (some d') ∧ OwnAt K S' H' u d') → FixOn (osP pm) (start N vs) σ → ∀ k u, pm = some k → vs[k]? = some u → OwnAt K S' H' u (m0 ρ pm) := fun ρ σ S' H' hk hf k u ek ev => by
      subst ek
      have hs : (start N vs)[k]? = some (some u) := by
        unfold L2.start
        rw [List.getElem?_append_left (by rw [List.length_map]; exact (List.getElem?_eq_some_iff.mp ev).1), List.getElem?_map, ev]
        rfl
      obtain ⟨d', e1, q⟩ := hk k u (osP_get.mpr rfl) (by rw [hf.2 k (osP_get.mpr rfl)]; exact hs)
      have e2 : m0 ρ (some k) = d' := by
        show (ρ.getD k none).getD .non = d'
        rw [List.getD, e1]; rfl
      rw [e2]; exact q
    cases z with
    | bk ρ => exact h.elim
    | ct ρ => exact h.elim
    | nx ρ =>
      rcases hnr with hnr | hnr
      · subst hnr
        exact fun σ' S' H' s' f' r' => h .non S' H' (s'.ext.weak fun a q => own_start ho q) .non (hm ρ σ' S' H' (fix_end (X := cxOf (L2.CX P w) P w K mg base N qual (defScope st) f cdv A outer s H E) r' hNl) f')
      · exact (hnr _ _ e).elim
    | rt d ρ =>
      refine fun v S' H' x hv hk => h v S' H' (x.weak fun a q => own_start ho q) ?_ (hm ρ _ S' H' hk FixOn.refl)
      unfold RetAt at hv
      unfold RV
      cases r with
      | false => exact hv
      | true =>
        refine ⟨hv.1, fun a ea => ?_⟩
        rcases hv.2.1 a ea with q | ⟨i, h1, h2⟩
        · exact q
        · exact (hv.2.2 i (by rw [ho] at h1; exact h1) (by rw [h2, ea])).elim
end
end SW

set_option maxRecDepth 100000
/-! SW5: what loops walk (VI), for, while, list comprehensions. -/
namespace SW
open PySem PySem.Spec PyProof.Rows L2

/-- the walk J yields these data, one a turn, whatever is laid beside -/
def ItAt (K : PySem.W.Frag) (S0 : Hp) (J : It) (items : List D) : Prop := items.length ≤ sizeLine ∧ ∀ i S H, Same S0 S → Same S H →
  (items.length ≤ i → J.stop i H) ∧ ∀ d, items[i]? = some d → J.go i H ∧ ∀ x H', J.yld i H x H' → ∃ S', Ext (fun _ => False) S H S' H' ∧ At K S' x d
def RI (K : PySem.W.Frag) : RR (List D) It := fun _ S' _ J items => ItAt K S' J items
theorem RI.ok {K : PySem.W.Frag} : (RI K).Ok := fun _ _ _ _ _ _ _ q => q
def VI (X : Cx) (W : WX) (os : Os) (tg iter : Expr) (f : Rho → Out (List D × Rho)) (os' : Os) : Prop :=
  ∃ wi, PI X tg iter wi ∧ ∀ S σ H ρ R, Rel X.K S H os σ ρ → Post X W S H os σ os' (RI X.K) R (f ρ) → wi σ H R

theorem pi_or {X : Cx} {tg iter : Expr} {w1 w2 : TI} (h1 : PI X tg iter w1) (h2 : PI X tg iter w2) : PI X tg iter (fun σ H R => w1 σ H R ∨ w2 σ H R) :=
  ⟨fun pins s σ H R I h => h.elim (h1.run pins s σ H R I) (h2.run pins s σ H R I)⟩

def itemsOf : D → Option (List D)
  | .lst ds => some ds
  | .tup ds => some ds
  | .scr ns => some (ns.map .int)
  | _ => none
def iSeq (f : Rho → Out (D × Rho)) : Rho → Out (List D × Rho) := fun ρ => (f ρ).bind fun p => (Out.of (itemsOf p.1)).bind fun c => .ok (c, p.2)

section
variable {K : PySem.W.Frag} {S S1 H : Hp}
theorem itAt_list {a : Addr} {vs : List V} {ds : List D} (h : SqL K S a vs) (z : ds.length ≤ sizeLine) (r : AtL K S vs ds) : ItAt K S (Itl K a) ds := ⟨z, fun i S' H' s1 s2 => by
  have hs : SqL K H' a vs := s2.seq (s1.seq h)
  refine ⟨fun hi => ⟨vs, hs, by rw [r.length]; exact hi⟩, fun d hd => ?_⟩
  obtain ⟨v, ev, hat⟩ := r.get hd
  refine ⟨⟨vs, v, hs, ev⟩, fun x H2 y => ?_⟩
  obtain ⟨rfl, fv⟩ := y
  have e := (fv vs hs).symm.trans ev
  cases e
  exact ⟨S', Ext.refl s2, hat.mono s1⟩⟩
theorem itAt_tup {a : Addr} {vs : List V} {ds : List D} (h : SqT K S a vs) (z : ds.length ≤ sizeLine) (r : AtL K S vs ds) : ItAt K S (Itt K a) ds := ⟨z, fun i S' H' s1 s2 => by
  have hs : SqT K H' a vs := sqT_mono s2 (sqT_mono s1 h)
  refine ⟨fun hi => ⟨vs, hs, by rw [r.length]; exact hi⟩, fun d hd => ?_⟩
  obtain ⟨v, ev, hat⟩ := r.get hd
  refine ⟨⟨vs, v, hs, ev⟩, fun x H2 y => ?_⟩
  obtain ⟨rfl, fv⟩ := y
  have e := (fv vs hs).symm.trans ev
  cases e
  exact ⟨S', Ext.refl s2, hat.mono s1⟩⟩
end
section
variable {X : Cx} {W : WX} {L : Lc} {os os1 os2 os3 osN : Os} {e e1 e2 : Expr} {f f1 f2 : Rho → Out (D × Rho)} {pos p : Pos} {st : Stmt} {sts rest : List Stmt} {tg iter : Expr}

/-- over a list or a tuple that stands -/
theorem vi_seq (he : VE X W os e f os1 false) : VI X W os tg e (iSeq f) os1 := by
  obtain ⟨t, pt, kt⟩ := he
  refine ⟨_, pi_or (pi_list pt) (pi_tup pt), fun S σ H ρ R rel P => ?_⟩
  cases hf : f ρ with
  | stuck => unfold iSeq at P; rw [hf] at P; exact P.elim
  | exc c fs =>
    refine .inl (kt S σ H ρ _ rel ?_)
    unfold iSeq at P
    rw [hf] at P ⊢
    exact P
  | ok z =>
    obtain ⟨d, ρ1⟩ := z
    unfold iSeq at P
    rw [hf] at P
    have P : Post X W S H os σ os1 (RI X.K) R ((Out.of (itemsOf d)).bind fun c => Out.ok (c, ρ1)) := P
    cases d with
    | lst ds =>
      refine .inl (kt S σ H ρ _ rel ?_)
      rw [hf]
      intro v S1 H1 st1 rel1 q1
      cases (show At X.K S1 v (.lst ds) from q1) with
      | lst hs z r => exact ⟨_, rfl, ⟨_, .of (rel1.sub _ _ hs)⟩, P _ S1 H1 st1 rel1 (itAt_list (.of hs) z r)⟩
    | scr ns =>
      refine .inl (kt S σ H ρ _ rel ?_)
      rw [hf]
      intro v S1 H1 st1 rel1 q1
      cases (show At X.K S1 v (.scr ns) from q1) with
      | scr hs z => exact ⟨_, rfl, ⟨_, rel1.sub.seq hs⟩, P _ S1 H1 st1 rel1 (itAt_list hs (by rw [List.length_map]; exact z) (AtL.ints ns))⟩
    | tup ds =>
      refine .inr (kt S σ H ρ _ rel ?_)
      rw [hf]
      intro v S1 H1 st1 rel1 q1
      cases (show At X.K S1 v (.tup ds) from q1) with
      | tup hs z r => exact ⟨_, rfl, ⟨_, sqT_mono rel1.sub hs⟩, P _ S1 H1 st1 rel1 (itAt_tup hs z r)⟩
    | _ => exact P.elim

/-! ### ranges -/
def lim62 (i : Int) : Bool := decide (i.natAbs < 4611686018427387904)
def rngI (lo : Int) (n : Nat) : List D := (List.range n).map fun i => .int (lo + (i : Nat))
def rangeD : List D → Option (List D)
  | [.int j] => if j.toNat ≤ 16777216 ∧ j.natAbs ≤ 4611686018427387904 then some (rngI 0 j.toNat) else none
  | [.int i, .int j] => if (j - i).toNat ≤ 16777216 ∧ lim62 i = true ∧ lim62 j = true then some (rngI i (j - i).toNat) else none
  | [.int i, .int j, .int c] => if c = -1 ∧ (i - j).toNat ≤ 16777216 ∧ lim62 i = true ∧ lim62 j = true then some ((List.range (i - j).toNat).map fun k => .int (i + (k : Nat) * (-1))) else none
  | _ => none
def iRange (g : Rho → Out (List D × Rho)) : Rho → Out (List D × Rho) := fun ρ => (g ρ).bind fun p => (Out.of (rangeD p.1)).bind fun c => .ok (c, p.2)
theorem sizeLine_is : sizeLine = 16777216 := by decide
theorem itAt_rng {K : PySem.W.Frag} {S : Hp} {lo : Int} {n : Nat} (hn : n ≤ sizeLine) : ItAt K S (Itr lo n) (rngI lo n) := by
  have hl : (rngI lo n).length = n := by unfold rngI; rw [List.length_map, List.length_range]
  refine ⟨by rw [hl]; exact hn, fun i S' H' s1 s2 => ⟨fun hi => by rw [hl] at hi; exact hi, fun d hd => ?_⟩⟩
  have hi : i < n := by rw [← hl]; exact (List.getElem?_eq_some_iff.mp hd).1
  refine ⟨hi, fun x H2 y => ?_⟩
  obtain ⟨rfl, rfl⟩ := y
  unfold rngI at hd
  rw [List.getElem?_map, List.getElem?_range hi] at hd
  cases hd
  exact ⟨S', Ext.refl s2, .int _⟩
theorem vi_range1 {a : Expr} {g : Rho → Out (List D × Rho)} (ha : VA X W os [a] g os1) (hm : X.mg "range" = none) (hg : Gl X "range" := by rfl) (hs : starEach [a] X.env = [(false, eval a X.env)] := by rfl) : VI X W os tg (.Call (.Name "range" p) [a] [] pos) (iRange g) os1 := by
  obtain ⟨t, pt, kt⟩ := ha
  refine ⟨_, pi_range1 hg hm pt hs, fun S σ H ρ R rel P => ?_⟩
  refine kt S σ H ρ _ rel (Post.seq P (fun z => z) (fun c fs p => p) fun ds ρ1 vs S1 H1 st1 rel1 q1 P1 => ?_)
  obtain ⟨q1, l1⟩ := q1
  match ds, vs, q1, P1 with
  | [d1], [v1], .cons h1 .nil, P1 =>
    have P1 : Post X W S H os σ os1 (RI X.K) R ((Out.of (rangeD [d1])).bind fun c => Out.ok (c, ρ1)) := P1
    cases h1 with
    | int j =>
      have P1 : Post X W S H os σ os1 (RI X.K) R ((Out.of (if j.toNat ≤ 16777216 ∧ j.natAbs ≤ 4611686018427387904 then some (rngI 0 j.toNat) else none)).bind fun c => Out.ok (c, ρ1)) := P1
      split at P1
      · rename_i hj
        refine ⟨j, rfl, by omega, by omega, (P1.step RI.ok st1).fin (os' := os1) rel1 (itAt_rng ?_)⟩
        rw [sizeLine_is]
        omega
      · exact P1.elim
    | _ => exact P1.elim
/-! ### enumerate, zip of lists -/
def enumD (ds : List D) : List D := (List.range ds.length).zipWith (fun i d => .tup [.int (i : Nat), d]) ds
def iEnum1 : List D → Option (List D)
  | [.lst ds] => some (enumD ds)
  | _ => none
def iArg (h : List D → Option (List D)) (g : Rho → Out (List D × Rho)) : Rho → Out (List D × Rho) := fun ρ => (g ρ).bind fun p => (Out.of (h p.1)).bind fun c => .ok (c, p.2)
theorem two_ok : 2 ≤ sizeLine := by decide
theorem vi_enum {elts : List Expr} {kk : Nat} {tpos : Pos} {g : Rho → Out (List D × Rho)} (ha : VA X W os [e] g os1) (hm : X.mg "enumerate" = none) (hg : Gl X "enumerate" := by rfl) (hs : starEach [e] X.env = [(false, eval e X.env)] := by rfl) :
    VI X W os (.Tuple elts kk tpos) (.Call (.Name "enumerate" p) [e] [] pos) (iArg iEnum1 g) os1 := by
  obtain ⟨t, pt, kt⟩ := ha
  refine ⟨_, pi_enum hg hm pt hs, fun S σ H ρ R rel P => ?_⟩
  refine kt S σ H ρ _ rel (Post.seq P (fun z => z) (fun c fs p => p) fun ds ρ1 vs S1 H1 st1 rel1 q1 P1 => ?_)
  obtain ⟨q1, l1⟩ := q1
  match ds, vs, q1, P1 with
  | [d1], [v1], .cons h1 .nil, P1 =>
    have P1 : Post X W S H os σ os1 (RI X.K) R ((Out.of (iEnum1 [d1])).bind fun c => Out.ok (c, ρ1)) := P1
    cases h1 with
    | @lst a vs ds hs z r =>
      have hl : (enumD ds).length = ds.length := by unfold enumD; rw [List.length_zipWith, List.length_range, Nat.min_self]
      refine ⟨a, vs, rfl, .of (rel1.sub _ _ hs), (P1.step RI.ok st1).fin (os' := os1) rel1 ⟨by rw [hl]; exact z, fun i S' H' s1 s2 => ?_⟩⟩
      have hs' : SqL X.K H' a vs := .of (s2 _ _ (s1 _ _ hs))
      refine ⟨fun hi => ⟨vs, hs', by rw [r.length, ← hl]; exact hi⟩, fun d hd => ?_⟩
      have hi : i < ds.length := by rw [← hl]; exact (List.getElem?_eq_some_iff.mp hd).1
      obtain ⟨v, ev, hat⟩ := r.get (List.getElem?_eq_getElem hi)
      refine ⟨⟨vs, v, hs', ev⟩, fun x H2 y => ?_⟩
      obtain ⟨T, x', rfl, nT, rfl, fx⟩ := y
      have e := (fx vs hs').symm.trans ev
      cases e
      have xx := Ext.new (O := fun _ => False) (o := .tup [.int (i : Nat), v]) s2 nT
      refine ⟨_, xx, ?_⟩
      have ed : d = .tup [.int (i : Nat), ds[i]] := by
        unfold enumD at hd
        rw [List.getElem?_zipWith, List.getElem?_range hi, List.getElem?_eq_getElem hi] at hd
        exact (Option.some.inj hd).symm
      rw [ed]
      exact .tup (.inl (.inl upd_same)) two_ok (.cons (.int _) (.cons ((hat.mono s1).mono xx.s) .nil))
    | _ => exact P1.elim
/-! ### for -/
def forL (b : D → Rho → Option Rho) (g : Rho → Out Fl) : List D → Rho → Out Fl
  | [], ρ => .ok (.nx ρ)
  | x :: xs, ρ => match b x ρ with
    | none => .stuck
    | some ρ1 => (g ρ1).bind fun y => match y with
      | .nx ρ2 => forL b g xs ρ2
      | .ct ρ2 => forL b g xs ρ2
      | .bk ρ2 => .ok (.nx ρ2)
      | .rt d ρ2 => .ok (.rt d ρ2)
def sFor (f : Rho → Out (List D × Rho)) (b : D → Rho → Option Rho) (g : Rho → Out Fl) : Rho → Out Fl := fun ρ => (f ρ).bind fun p => forL b g p.1 p.2
theorem vs_for {body : List Stmt} {fi : Rho → Out (List D × Rho)} {b : D → Rho → Option Rho} {g : Rho → Out Fl} {ch : List Nat} (hp : PassesOwn (model X.prog X.w) X.A X.env X.xe) (hi : VI X W os tg iter fi os1) (hg : VG X os1 tg b ch os2)
    (hb : VSs X W ⟨L.fx, os1, os1, L.r, L.px, L.sub⟩ os2 body g os1) (hfx : ch.all (fun i => !L.fx.getD i false) = true := by rfl) (hc : X.calm = true := by rfl) (hs : ∀ x, foldedSetIterable iter X.env x = pure x := by intro _; rfl) :
    VS X W L os (.For tg iter body [] pos) (sFor fi b g) os1 := by
  obtain ⟨wi, pi, ki⟩ := hi
  obtain ⟨tg', pg, kg⟩ := hg
  obtain ⟨tb, pb, kb⟩ := hb
  refine ⟨_, ps_for hp hc pi pg pb hs, fun S σ H ρ Ds rel P => ?_⟩
  refine ki S σ H ρ _ rel (PostS.seqE P fun items ρ1 J S1 H1 st1 rel1 q1 P1 => ?_)
  obtain ⟨hz, q1⟩ := q1
  refine ⟨fun i m σ' H' => i + m = items.length ∧ ∃ S' ρ', Same S1 S' ∧ Rel X.K S' H' os1 σ' ρ' ∧ PostS X W L S' H' os1 σ' os1 Ds (forL b g (items.drop i) ρ'), ⟨items.length, by omega, S1, ρ1, Same.refl _, rel1, P1⟩, ?_⟩
  rintro i m σ' H' ⟨hm, S', ρ', s1, rel', P'⟩
  obtain ⟨hstop, hgo⟩ := q1 i S' H' s1 rel'.sub
  by_cases hlt : i < items.length
  · have ed := List.getElem?_eq_getElem hlt
    obtain ⟨go, hy⟩ := hgo _ ed
    rw [List.drop_eq_getElem_cons hlt] at P'
    unfold forL at P'
    refine .inr ⟨go, fun σ'' H'' => ∃ S'' ρ'', Same S1 S'' ∧ Rel X.K S'' H'' os1 σ'' ρ'' ∧ PostS X W L S'' H'' os1 σ'' os1 Ds (forL b g (items.drop (i + 1)) ρ''), fun σ'' H'' ⟨S'', ρ'', a, b, c⟩ => ⟨m - 1, by omega, by omega, S'', ρ'', a, b, c⟩, fun x H2 y => ?_⟩
    obtain ⟨S2, x2, hat⟩ := hy x H2 y
    have rel2 := rel'.ext0 x2
    cases eb : b items[i] ρ' with
    | none => rw [eb] at P'; exact P'.elim
    | some ρ2 =>
      rw [eb] at P'
      refine kg S2 σ' H2 ρ' x _ ρ2 _ rel2 hat eb fun σ3 rel3 f3 o3 => ?_
      have st3 : Stp os1 σ' S' H' os2 σ3 S2 H2 := ⟨x2.weak fun _ z => z.elim, fun a q => .inl (o3 a q)⟩
      have fx3 := f3.fix hfx
      refine kb S2 σ3 H2 ρ2 _ rel3 ?_
      have P' : PostS X W L S2 H2 os2 σ3 os1 Ds ((g ρ2).bind fun y => match y with
        | .nx ρ2 => forL b g (items.drop (i + 1)) ρ2
        | .ct ρ2 => forL b g (items.drop (i + 1)) ρ2
        | .bk ρ2 => .ok (.nx ρ2)
        | .rt d ρ2 => .ok (.rt d ρ2)) := PostS.step P' st3 fx3
      cases hgr : g ρ2 with
      | stuck => rw [hgr] at P'; exact P'
      | exc c fs => rw [hgr] at P'; exact P'
      | ok z =>
        rw [hgr] at P'
        cases z with
        | nx ρ4 => exact fun σ4 S4 H4 s4 f4 r4 => ⟨S4, ρ4, s1.trans (x2.s.trans s4.ext.s), r4, PostS.step P' s4 f4⟩
        | ct ρ4 => exact fun σ4 S4 H4 s4 f4 r4 => ⟨S4, ρ4, s1.trans (x2.s.trans s4.ext.s), r4, PostS.step P' s4 f4⟩
        | bk ρ4 => exact P'
        | rt d ρ4 => exact P'
  · refine .inl ⟨hstop (by omega), ?_⟩
    rw [List.drop_of_length_le (by omega)] at P'
    exact P'.fin rel'

/-! ### while -/
def whileL (c : Rho → Out (Bool × Rho)) (g : Rho → Out Fl) : Nat → Rho → Out Fl
  | 0, _ => .stuck
  | n + 1, ρ => (c ρ).bind fun p => if p.1 = true then (g p.2).bind fun y => (match y with
      | .nx ρ2 => whileL c g n ρ2
      | .ct ρ2 => whileL c g n ρ2
      | .bk ρ2 => .ok (.nx ρ2)
      | .rt d ρ2 => .ok (.rt d ρ2)) else .ok (.nx p.2)
def sWhile (fuel : Rho → Nat) (c : Rho → Out (Bool × Rho)) (g : Rho → Out Fl) : Rho → Out Fl := fun ρ => whileL c g (fuel ρ) ρ
theorem vs_while {c : Expr} {body : List Stmt} {gc : Rho → Out (Bool × Rho)} {g : Rho → Out Fl} {fuel : Rho → Nat} (hp : PassesOwn (model X.prog X.w) X.A X.env X.xe) (hc : VT X W os c gc os) (hb : VSs X W ⟨L.fx, os, os, L.r, L.px, L.sub⟩ os body g os) :
    VS X W L os (.While c body [] pos) (sWhile fuel gc g) os := by
  obtain ⟨tc, pc, kc⟩ := hc
  obtain ⟨tb, pb, kb⟩ := hb
  refine ⟨_, ps_while hp pc pb, fun S σ H ρ Ds rel P => ?_⟩
  refine ⟨fun m σ' H' => ∃ S' ρ', Rel X.K S' H' os σ' ρ' ∧ PostS X W L S' H' os σ' os Ds (whileL gc g m ρ'), ⟨fuel ρ, S, ρ, rel, P⟩, ?_⟩
  rintro m σ' H' ⟨S', ρ', rel', P'⟩
  cases m with
  | zero => exact P'.elim
  | succ m =>
    unfold whileL at P'
    refine kc S' σ' H' ρ' _ rel' (PostS.seqE P' fun d ρ1 v S1 H1 s1 r1 q1 P1 => ?_)
    cases q1
    cases d with
    | false => exact P1.fin r1
    | true =>
      refine ⟨fun σ'' H'' => ∃ S'' ρ'', Rel X.K S'' H'' os σ'' ρ'' ∧ PostS X W L S'' H'' os σ'' os Ds (whileL gc g m ρ''), fun σ'' H'' h => ⟨m, Nat.lt_succ_self m, h⟩, ?_⟩
      refine kb S1 σ' H1 ρ1 _ r1 ?_
      have P1 : PostS X W L S1 H1 os σ' os Ds ((g ρ1).bind fun y => (match y with
        | .nx ρ2 => whileL gc g m ρ2
        | .ct ρ2 => whileL gc g m ρ2
        | .bk ρ2 => .ok (.nx ρ2)
        | .rt d ρ2 => .ok (.rt d ρ2))) := P1
      cases hgr : g ρ1 with
      | stuck => rw [hgr] at P1; exact P1
      | exc c fs => rw [hgr] at P1; exact P1
      | ok z =>
        rw [hgr] at P1
        cases z with
        | nx ρ4 => exact fun σ4 S4 H4 s4 f4 r4 => ⟨S4, ρ4, r4, PostS.step P1 s4 f4⟩
        | ct ρ4 => exact fun σ4 S4 H4 s4 f4 r4 => ⟨S4, ρ4, r4, PostS.step P1 s4 f4⟩
        | bk ρ4 => exact P1
        | rt d ρ4 => exact P1
end
end SW

set_option maxRecDepth 100000
/-! SW6: list comprehensions of one clause; freezing behind a statement. -/
namespace SW
open PySem PySem.Spec PyProof.Rows L2

def wipeR (ρ : Rho) : List Nat → Rho
  | [] => ρ
  | v :: vs => (wipeR ρ vs).set v none
def backR : List Nat → Rho → Rho → Rho
  | [], _, ρ3 => ρ3
  | v :: vs, ρ, ρ3 => (backR vs ρ ρ3).set v (ρ.getD v none)
theorem wipeR_len (ρ : Rho) : ∀ vs, (wipeR ρ vs).length = ρ.length
  | [] => rfl
  | v :: vs => by unfold wipeR; rw [List.length_set, wipeR_len ρ vs]
theorem backR_len (ρ ρ3 : Rho) : ∀ vs, (backR vs ρ ρ3).length = ρ3.length
  | [] => rfl
  | v :: vs => by unfold backR; rw [List.length_set, backR_len ρ ρ3 vs]
theorem wipe_in {σ : Sg} {i : Nat} : ∀ {vs : List Nat}, i ∈ vs → i < σ.length → (wipe σ vs)[i]? = some none
  | v :: vs, h, hl => by
    unfold wipe
    by_cases e : v = i
    · subst e; rw [List.getElem?_set_self (by rw [wipe_length]; exact hl)]
    · rw [List.getElem?_set_ne e]
      exact wipe_in (by simpa [e, Ne.symm e] using (List.mem_cons.mp h).resolve_left (Ne.symm e)) hl
theorem wipe_out {σ : Sg} {i : Nat} : ∀ {vs : List Nat}, i ∉ vs → (wipe σ vs)[i]? = σ[i]?
  | [], _ => rfl
  | v :: vs, h => by
    unfold wipe
    rw [List.getElem?_set_ne (fun z => h (by simp [z]))]
    exact wipe_out fun z => h (List.mem_cons_of_mem _ z)
theorem wipeR_in {ρ : Rho} {i : Nat} : ∀ {vs : List Nat}, i ∈ vs → i < ρ.length → (wipeR ρ vs)[i]? = some none
  | v :: vs, h, hl => by
    unfold wipeR
    by_cases e : v = i
    · subst e; rw [List.getElem?_set_self (by rw [wipeR_len]; exact hl)]
    · rw [List.getElem?_set_ne e]
      exact wipeR_in ((List.mem_cons.mp h).resolve_left (Ne.symm e)) hl
theorem wipeR_out {ρ : Rho} {i : Nat} : ∀ {vs : List Nat}, i ∉ vs → (wipeR ρ vs)[i]? = ρ[i]?
  | [], _ => rfl
  | v :: vs, h => by
    unfold wipeR
    rw [List.getElem?_set_ne (fun z => h (by simp [z]))]
    exact wipeR_out fun z => h (List.mem_cons_of_mem _ z)
theorem backR_in {ρ ρ3 : Rho} {i : Nat} : ∀ {vs : List Nat}, i ∈ vs → i < ρ3.length → (backR vs ρ ρ3)[i]? = some (ρ.getD i none)
  | v :: vs, h, hl => by
    unfold backR
    by_cases e : v = i
    · subst e; rw [List.getElem?_set_self (by rw [backR_len]; exact hl)]
    · rw [List.getElem?_set_ne e]
      exact backR_in ((List.mem_cons.mp h).resolve_left (Ne.symm e)) hl
theorem backR_out {ρ ρ3 : Rho} {i : Nat} : ∀ {vs : List Nat}, i ∉ vs → (backR vs ρ ρ3)[i]? = ρ3[i]?
  | [], _ => rfl
  | v :: vs, h => by
    unfold backR
    rw [List.getElem?_set_ne (fun z => h (by simp [z]))]
    exact backR_out fun z => h (List.mem_cons_of_mem _ z)
theorem wipe_eq {σ σ2 : Sg} {vs ch : List Nat} (h : ChOn ch (wipe σ vs) σ2) (hc : ∀ i ∈ ch, i ∈ vs) : wipe σ2 vs = wipe σ vs := by
  have hl : σ2.length = σ.length := by rw [h.1, wipe_length]
  refine List.ext_getElem? fun i => ?_
  by_cases hi : i ∈ vs
  · by_cases hlt : i < σ.length
    · rw [wipe_in hi hlt, wipe_in hi (by rw [hl]; exact hlt)]
    · rw [List.getElem?_eq_none (by rw [wipe_length]; omega), List.getElem?_eq_none (by rw [wipe_length]; omega)]
  · rw [wipe_out hi, h.2 i fun z => hi (hc i z)]

section
variable {K : PySem.W.Frag} {S S3 H H3 : Hp} {os : Os} {σ σ2 : Sg} {ρ ρ3 : Rho} {vs : List Nat}
theorem all_false {os : Os} (h : vs.all (fun v => !os.getD v false) = true) {i : Nat} (hi : i ∈ vs) : os.getD i false = false := by
  have q := List.all_eq_true.mp h i hi
  simpa using q
theorem Rel.wipe (r : Rel K S H os σ ρ) (hv : vs.all (fun v => !os.getD v false) = true) : Rel K S H os (L2.wipe σ vs) (wipeR ρ vs) where
  sub := r.sub
  len := by rw [wipe_length, wipeR_len]; exact r.len
  slot := fun i x d e1 e2 => by
    by_cases hi : i ∈ vs
    · have hl : i < σ.length := by
        have := (List.getElem?_eq_some_iff.mp e1).1
        rwa [wipe_length] at this
      rw [wipe_in hi hl] at e1
      rw [wipeR_in hi (by rw [← r.len]; exact hl)] at e2
      cases e1; cases e2
      cases os.getD i false <;> trivial
    · rw [wipe_out hi] at e1
      rw [wipeR_out hi] at e2
      exact r.slot i x d e1 e2
  sep := fun i j a h1 h2 e1 e2 => by
    have hi : i ∉ vs := fun z => by rw [all_false hv z] at h1; cases h1
    have hj : j ∉ vs := fun z => by rw [all_false hv z] at h2; cases h2
    rw [wipe_out hi] at e1
    rw [wipe_out hj] at e2
    exact r.sep i j a h1 h2 e1 e2
theorem own_wipe (hv : vs.all (fun v => !os.getD v false) = true) {a : Addr} : Own os (L2.wipe σ vs) a ↔ Own os σ a := by
  constructor
  · rintro ⟨i, h1, h2⟩
    have hi : i ∉ vs := fun z => by rw [all_false hv z] at h1; cases h1
    rw [wipe_out hi] at h2
    exact ⟨i, h1, h2⟩
  · rintro ⟨i, h1, h2⟩
    have hi : i ∉ vs := fun z => by rw [all_false hv z] at h1; cases h1
    exact ⟨i, h1, by rw [wipe_out hi]; exact h2⟩
theorem Rel.back (r : Rel K S H os σ ρ) (hv : vs.all (fun v => !os.getD v false) = true) (sm : Same S S3) (r3 : Rel K S3 H3 os σ2 ρ3) (hl : σ2.length = σ.length) (ho : ∀ i, i ∉ vs → σ2[i]? = σ[i]?) : Rel K S3 H3 os σ (backR vs ρ ρ3) where
  sub := r3.sub
  len := by rw [backR_len, ← r3.len, hl]
  slot := fun i x d e1 e2 => by
    by_cases hi : i ∈ vs
    · have hlt : i < σ.length := (List.getElem?_eq_some_iff.mp e1).1
      rw [backR_in hi (by rw [← r3.len, hl]; exact hlt)] at e2
      have hr : i < ρ.length := by rw [← r.len]; exact hlt
      have e3 : ρ[i]? = some d := by
        have : ρ.getD i none = d := Option.some.inj e2
        rw [← this, List.getD, List.getElem?_eq_getElem hr]; rfl
      have q := r.slot i x d e1 e3
      rw [all_false hv hi] at q ⊢
      cases x <;> cases d <;> simp only [SlotAt] at q ⊢
      exact q.mono sm
    · rw [backR_out hi] at e2
      exact r3.slot i x d (by rw [ho i hi]; exact e1) e2
  sep := fun i j a h1 h2 e1 e2 => by
    have hi : i ∉ vs := fun z => by rw [all_false hv z] at h1; cases h1
    have hj : j ∉ vs := fun z => by rw [all_false hv z] at h2; cases h2
    exact r3.sep i j a h1 h2 (by rw [ho i hi]; exact e1) (by rw [ho j hj]; exact e2)
theorem own_back (hv : vs.all (fun v => !os.getD v false) = true) (ho : ∀ i, i ∉ vs → σ2[i]? = σ[i]?) {a : Addr} : Own os σ2 a ↔ Own os σ a := by
  constructor
  · rintro ⟨i, h1, h2⟩
    have hi : i ∉ vs := fun z => by rw [all_false hv z] at h1; cases h1
    exact ⟨i, h1, by rw [← ho i hi]; exact h2⟩
  · rintro ⟨i, h1, h2⟩
    have hi : i ∉ vs := fun z => by rw [all_false hv z] at h1; cases h1
    exact ⟨i, h1, by rw [ho i hi]; exact h2⟩
end

/-! ### the block's judgements, for every start -/
abbrev W0 : WX := fun _ _ _ _ => False
def VTs (X : Cx) (W : WX) (os : Os) (es : List Expr) (f : Rho → Out (Bool × Rho)) (os' : Os) : Prop :=
  ∃ t, PTs X es t ∧ ∀ S σ H ρ Q, Rel X.K S H os σ ρ → Post X W S H os σ os' RB Q (f ρ) → t σ H Q
def tYesF : Rho → Out (Bool × Rho) := fun ρ => .ok (true, ρ)
theorem vts_nil {X : Cx} {W : WX} {os : Os} : VTs X W os [] tYesF os := ⟨_, pts_nil, fun S σ H ρ Q rel P => P.fin (os' := os) rel rfl⟩
theorem vts_one {X : Cx} {W : WX} {os os1 : Os} {c : Expr} {f : Rho → Out (Bool × Rho)} (h : VT X W os c f os1) : VTs X W os [c] f os1 := by
  obtain ⟨t, p, k⟩ := h
  exact ⟨t, pts_one p, k⟩

def compL (vs : List Nat) (b : D → Rho → Option Rho) (tt : Rho → Out (Bool × Rho)) (fe : Rho → Out (D × Rho)) : List D → Rho → Out (List D × Rho)
  | [], ρ => .ok ([], ρ)
  | x :: xs, ρ => match b x (wipeR ρ vs) with
    | none => .stuck
    | some ρ1 => match tt ρ1 with
      | .ok (true, ρ2) => match fe ρ2 with
        | .ok (d, ρ3) => (compL vs b tt fe xs (backR vs ρ ρ3)).bind fun p => .ok (d :: p.1, p.2)
        | _ => .stuck
      | .ok (false, ρ2) => compL vs b tt fe xs (backR vs ρ ρ2)
      | _ => .stuck
def eComp (vs : List Nat) (fi : Rho → Out (List D × Rho)) (b : D → Rho → Option Rho) (tt : Rho → Out (Bool × Rho)) (fe : Rho → Out (D × Rho)) : Rho → Out (D × Rho) := fun ρ =>
  (fi ρ).bind fun p => (compL vs b tt fe p.1 p.2).bind fun q => .ok (.lst q.1, q.2)
theorem compL_exc {vs : List Nat} {b : D → Rho → Option Rho} {tt : Rho → Out (Bool × Rho)} {fe : Rho → Out (D × Rho)} : ∀ {xs : List D} {ρ : Rho} {c fs}, compL vs b tt fe xs ρ ≠ .exc c fs
  | [], ρ, c, fs, h => by cases h
  | x :: xs, ρ, c, fs, h => by
    unfold compL at h
    split at h
    · cases h
    · split at h
      · split at h
        · cases e : compL vs b tt fe xs (backR vs ρ _) with
          | ok z => rw [e] at h; cases h
          | exc c fs => exact compL_exc e
          | stuck => rw [e] at h; cases h
        · cases h
      · exact compL_exc h
      · cases h

section
variable {X : Cx} {W : WX} {L : Lc} {os os1 os2 os3 osN : Os} {elt tg iter : Expr} {ifs : List Expr} {scope : Scope} {own : List (Str × Nat)} {pos : Pos} {ch : List Nat}
  {fi : Rho → Out (List D × Rho)} {b : D → Rho → Option Rho} {tt : Rho → Out (Bool × Rho)} {fe : Rho → Out (D × Rho)}
abbrev blkX (X : Cx) (scope : Scope) (s : Shared) (H : Hp) (C : Addr) (cl : List (Str × Addr)) (fp : List Addr) : Cx := X.blk s H scope (compEnvC scope cl C X.env) fp
theorem uniG (hg : ∀ s H C cl fp, VG (blkX X scope s H C cl fp) os tg b ch os1) : ∃ t : TG, (∀ s H C cl fp, PG (blkX X scope s H C cl fp) tg t) ∧
    ∀ S σ H ρ v d ρ' Q, Rel X.K S H os σ ρ → At X.K S v d → b d ρ = some ρ' → (∀ σ', Rel X.K S H os1 σ' ρ' → ChOn ch σ σ' → (∀ a, Own os1 σ' a → Own os σ a) → Q σ' H) → t v σ H Q := by
  refine ⟨fun v σ H Q => ∀ s H0 C cl fp, Classical.choose (hg s H0 C cl fp) v σ H Q, fun s H C cl fp => ⟨fun pins s' σ H' v u Q I r h => ?_⟩, fun S σ H ρ v d ρ' Q rel hv hb hq s H0 C cl fp => ?_⟩
  · exact (Classical.choose_spec (hg s H C cl fp)).1.run pins s' σ H' v u Q I r (h s H C cl fp)
  · exact (Classical.choose_spec (hg s H0 C cl fp)).2 S σ H ρ v d ρ' Q rel hv hb hq
theorem uniE (he : ∀ s H C cl fp, VE (blkX X scope s H C cl fp) W0 os elt fe os1 false) : ∃ t : TE, (∀ s H C cl fp, PE (blkX X scope s H C cl fp) elt t) ∧
    ∀ S σ H ρ Q, Rel X.K S H os σ ρ → Post X W0 S H os σ os1 (RV X.K false) Q (fe ρ) → t σ H Q := by
  refine ⟨fun σ H Q => ∀ s H0 C cl fp, Classical.choose (he s H0 C cl fp) σ H Q, fun s H C cl fp => ⟨fun pins s' σ H' Q I h => ?_⟩, fun S σ H ρ Q rel P s H0 C cl fp => ?_⟩
  · exact (Classical.choose_spec (he s H C cl fp)).1.run pins s' σ H' Q I (h s H C cl fp)
  · exact (Classical.choose_spec (he s H0 C cl fp)).2 S σ H ρ Q rel (by cases h : fe ρ <;> rw [h] at P <;> exact P)
theorem uniT (ht : ∀ s H C cl fp, VTs (blkX X scope s H C cl fp) W0 os ifs tt os1) : ∃ t : TT, (∀ s H C cl fp, PTs (blkX X scope s H C cl fp) ifs t) ∧
    ∀ S σ H ρ Q, Rel X.K S H os σ ρ → Post X W0 S H os σ os1 RB Q (tt ρ) → t σ H Q := by
  refine ⟨fun σ H Q => ∀ s H0 C cl fp, Classical.choose (ht s H0 C cl fp) σ H Q, fun s H C cl fp => ⟨fun pins s' σ H' Q I h => ?_⟩, fun S σ H ρ Q rel P s H0 C cl fp => ?_⟩
  · exact (Classical.choose_spec (ht s H C cl fp)).1.run pins s' σ H' Q I (h s H C cl fp)
  · exact (Classical.choose_spec (ht s H0 C cl fp)).2 S σ H ρ Q rel (by cases h : tt ρ <;> rw [h] at P <;> exact P)

theorem lc_read {wi : TI} {g : TG} {t1 : TT} {te : TE} {vs : List Nat} (ki : ∀ S σ H ρ R, Rel X.K S H os σ ρ → Post X W S H os σ os1 (RI X.K) R (fi ρ) → wi σ H R)
    (kg : ∀ S σ H ρ v d ρ' Q, Rel X.K S H os1 σ ρ → At X.K S v d → b d ρ = some ρ' → (∀ σ', Rel X.K S H os2 σ' ρ' → ChOn ch σ σ' → (∀ a, Own os2 σ' a → Own os1 σ a) → Q σ' H) → g v σ H Q)
    (kt : ∀ S σ H ρ Q, Rel X.K S H os2 σ ρ → Post X W0 S H os2 σ os1 RB Q (tt ρ) → t1 σ H Q) (ke : ∀ S σ H ρ Q, Rel X.K S H os1 σ ρ → Post X W0 S H os1 σ os1 (RV X.K false) Q (fe ρ) → te σ H Q)
    (hch : ∀ i ∈ ch, i ∈ vs) (hv : vs.all (fun v => !os1.getD v false) = true) : ∀ S σ H ρ Q, Rel X.K S H os σ ρ → Post X W S H os σ os1 (RV X.K true) Q (eComp vs fi b tt fe ρ) → tLc wi g t1 te vs σ H Q := by
  intro S σ H ρ Q rel P
  refine ki S σ H ρ _ rel (Post.seq P (fun z => z) (fun c fs p => p) fun items ρ1 J S1 H1 st1 rel1 q1 P1 => ?_)
  obtain ⟨hz, q1⟩ := q1
  have P1 : Post X W S1 H1 os1 σ os1 (RV X.K true) Q ((compL vs b tt fe items ρ1).bind fun q => .ok (.lst q.1, q.2)) := P1.step RV.ok st1
  intro D0 hD
  cases hc : compL vs b tt fe items ρ1 with
  | stuck => rw [hc] at P1; exact P1.elim
  | exc c fs => exact (compL_exc hc).elim
  | ok z =>
    obtain ⟨ds, ρe⟩ := z
    rw [hc] at P1
    refine ⟨fun i m H' => i + m = items.length ∧ ∃ S' ρ' accV acc dsr, Same S1 S' ∧ Ext (Own os1 σ) S1 H1 S' H' ∧ Rel X.K S' H' os1 σ ρ' ∧ S' D0 = none ∧ H' D0 = some (.lst accV) ∧ AtL X.K S' accV acc ∧ compL vs b tt fe (items.drop i) ρ' = .ok (dsr, ρe) ∧ ds = acc ++ dsr ∧ acc.length ≤ i,
      ⟨items.length, by omega, S1, ρ1, [], [], ds, Same.refl _, Ext.newO rel1.sub hD, rel1.newO hD, rel1.sub.free hD, upd_same, .nil, hc, rfl, Nat.le_refl _⟩, ?_⟩
    rintro i m H' ⟨hm, S', ρ', accV, acc, dsr, s1, x1, rel', nD, eD, hacc, hcl, hds, hal⟩
    obtain ⟨hstop, hgo⟩ := q1 i S' H' s1 rel'.sub
    by_cases hlt : i < items.length
    · have ed := List.getElem?_eq_getElem hlt
      obtain ⟨go, hy⟩ := hgo _ ed
      rw [List.drop_eq_getElem_cons hlt] at hcl
      unfold compL at hcl
      refine .inr ⟨go, fun H'' => ∃ S'' ρ'' accV' acc' dsr', Same S1 S'' ∧ Ext (Own os1 σ) S1 H1 S'' H'' ∧ Rel X.K S'' H'' os1 σ ρ'' ∧ S'' D0 = none ∧ H'' D0 = some (.lst accV') ∧ AtL X.K S'' accV' acc' ∧ compL vs b tt fe (items.drop (i + 1)) ρ'' = .ok (dsr', ρe) ∧ ds = acc' ++ dsr' ∧ acc'.length ≤ i + 1,
        fun H'' h => ⟨m - 1, by omega, by omega, h⟩, fun x H2 y => ?_⟩
      obtain ⟨S2, x2, hat⟩ := hy x H2 y
      have rel2 := rel'.ext0 x2
      obtain ⟨eD2, nD2⟩ := x2.fr D0 _ eD nD fun z => z
      have hacc2 := hacc.mono x2.s
      cases eb : b items[i] (wipeR ρ' vs) with
      | none => rw [eb] at hcl; cases hcl
      | some ρ2 =>
        rw [eb] at hcl
        dsimp only at hcl
        refine kg S2 (wipe σ vs) H2 (wipeR ρ' vs) x _ ρ2 _ (rel2.wipe hv) hat eb fun σ3 rel3 f3 o3 => ?_
        refine ⟨wipe_eq f3 hch, ?_⟩
        have hl3 : σ3.length = σ.length := by rw [f3.1, wipe_length]
        have ho3 : ∀ i, i ∉ vs → σ3[i]? = σ[i]? := fun i hi => by rw [f3.2 i fun z => hi (hch i z), wipe_out hi]
        -- the result's cell is nobody's
        have noD : ∀ {K S H os σ ρ}, Rel K S H os σ ρ → H D0 ≠ none → S D0 = none → (Own os σ D0 → False) → True := fun _ _ _ _ => trivial
        have nown : ¬ Own os1 σ D0 := fun z => by
          obtain ⟨_, o, eo⟩ := rel1.owned z
          rw [hD] at eo; cases eo
        have nown2 : ¬ Own os2 σ3 D0 := fun z => nown ((own_wipe hv).mp (o3 D0 z))
        have sub3 : ∀ a, Own os2 σ3 a → Own os1 σ a := fun a z => (own_wipe hv).mp (o3 a z)
        cases et : tt ρ2 with
        | stuck => rw [et] at hcl; cases hcl
        | exc c fs => rw [et] at hcl; cases hcl
        | ok z =>
          obtain ⟨bb, ρ3⟩ := z
          rw [et] at hcl
          refine kt S2 σ3 H2 ρ2 _ rel3 ?_
          rw [et]
          intro b' S4 H4 st4 rel4 q4
          cases q4
          obtain ⟨eD4, nD4⟩ := st4.ext.fr D0 _ eD2 nD2 nown2
          have x4 : Ext (Own os1 σ) S2 H2 S4 H4 := st4.ext.weak sub3
          have xa : Ext (Own os1 σ) S1 H1 S4 H4 := x1.trans ((x2.weak fun _ z => z.elim).trans x4 fun c z => .inl z) fun c z => .inl z
          cases bb with
          | false =>
            dsimp only at hcl
            rw [if_neg Bool.false_ne_true]
            exact ⟨S4, backR vs ρ' ρ3, accV, acc, dsr, xa.s, xa, rel2.back hv st4.ext.s rel4 hl3 ho3, nD4, eD4, hacc2.mono st4.ext.s, hcl, hds, by omega⟩
          | true =>
            dsimp only at hcl
            rw [if_pos rfl]
            cases ee : fe ρ3 with
            | stuck => rw [ee] at hcl; cases hcl
            | exc c fs => rw [ee] at hcl; cases hcl
            | ok z =>
              obtain ⟨d, ρ4⟩ := z
              rw [ee] at hcl
              dsimp only at hcl
              refine ke S4 σ3 H4 ρ3 _ rel4 ?_
              rw [ee]
              intro v S5 H5 st5 rel5 q5
              have q5 : At X.K S5 v d := q5
              have nown4 : ¬ Own os1 σ3 D0 := fun z => nown ((own_back hv ho3).mp z)
              obtain ⟨eD5, nD5⟩ := st5.ext.fr D0 _ eD4 nD4 nown4
              cases hcc : compL vs b tt fe (items.drop (i + 1)) (backR vs ρ' ρ4) with
              | stuck => rw [hcc] at hcl; cases hcl
              | exc c fs => exact (compL_exc hcc).elim
              | ok z =>
                obtain ⟨ds', ρe'⟩ := z
                rw [hcc] at hcl
                have hcl : Out.ok (d :: ds', ρe') = Out.ok (dsr, ρe) := hcl
                injection hcl with hcl
                injection hcl with h1 h2
                subst h1 h2
                have x5 : Ext (Own os1 σ) S4 H4 S5 H5 := st5.ext.weak fun a z => (own_back hv ho3).mp z
                have xb : Ext (Own os1 σ) S1 H1 S5 H5 := xa.trans x5 fun c z => .inl z
                have accl : accV.length = acc.length := hacc.length
                have relb : Rel X.K S5 H5 os1 σ (backR vs ρ' ρ4) := rel2.back hv (st4.ext.s.trans st5.ext.s) rel5 hl3 ho3
                refine ⟨accV, eD5, by omega, S5, backR vs ρ' ρ4, accV ++ [v], acc ++ [d], ds', xb.s, ?_, ?_, nD5, upd_same, ((hacc2.mono st4.ext.s).mono st5.ext.s).append (.cons q5 .nil), hcc, by rw [hds, List.append_assoc]; rfl, by rw [List.length_append]; simp; omega⟩
                · refine ⟨xb.s, fun c o e => ?_, fun c o e n no => ?_, fun c e => ?_⟩
                  · have hcD : c ≠ D0 := fun z => by rw [z, nD5] at e; cases e
                    rw [upd_ne hcD]; exact xb.sh c o e
                  · obtain ⟨e1, n1⟩ := xb.fr c o e n no
                    have hcD : c ≠ D0 := fun z => by rw [z, hD] at e; cases e
                    rw [upd_ne hcD]; exact ⟨e1, n1⟩
                  · by_cases hcD : c = D0
                    · rw [hcD, upd_same] at e; cases e
                    · rw [upd_ne hcD] at e; exact xb.there c e
                · refine relb.grow (S' := S5) (H' := upd H5 D0 (.lst (accV ++ [v]))) (O := fun c => c = D0) ⟨Same.refl _, fun c o e => ?_, fun c o e n no => ?_, fun c e => ?_⟩ fun c z hz => nown (hz ▸ z)
                  · have hcD : c ≠ D0 := fun z => by rw [z, nD5] at e; cases e
                    rw [upd_ne hcD]; exact relb.sub c o e
                  · rw [upd_ne no]; exact ⟨e, n⟩
                  · by_cases hcD : c = D0
                    · rw [hcD, upd_same] at e; cases e
                    · rw [upd_ne hcD] at e; exact e
    · refine .inl ⟨hstop (by omega), ?_⟩
      rw [List.drop_of_length_le (by omega)] at hcl
      have hcl : Out.ok ([], ρ') = Out.ok (dsr, ρe) := hcl
      injection hcl with hcl
      injection hcl with h1 h2
      subst h1 h2
      rw [List.append_nil] at hds
      subst hds
      exact P1 (.ref D0) S' H' ⟨x1, fun a q => .inl q⟩ rel' ⟨OwnAt.mkL (ds := ds) nD eD (by omega) hacc, fun a e => by cases e; exact hD⟩

/-- [elt for tg in iter if ..] -/
theorem ve_lc (ok : BlkOk X.N X.env.scope scope own) (hi : VI X W os tg iter fi os1) (hg : ∀ s H C cl fp, VG (blkX X scope s H C cl fp) os1 tg b ch os2) (ht : ∀ s H C cl fp, VTs (blkX X scope s H C cl fp) W0 os2 ifs tt os1)
    (he : ∀ s H C cl fp, VE (blkX X scope s H C cl fp) W0 os1 elt fe os1 false) (hN : X.N.Nodup) (hch : ∀ i ∈ ch, i ∈ own.map (·.2) := by decide) (hv : (own.map (·.2)).all (fun v => !os1.getD v false) = true := by rfl) (hc : X.calm = true := by rfl) (hs : ∀ x, foldedSetIterable iter X.env x = pure x := by intro _; rfl) :
    VE X W os (.ListComp elt [⟨tg, iter, ifs, 0⟩] scope pos) (eComp (own.map (·.2)) fi b tt fe) os1 true := by
  obtain ⟨wi, pi, ki⟩ := hi
  obtain ⟨g, pg, kg⟩ := uniG hg
  obtain ⟨t1, pt, kt⟩ := uniT ht
  obtain ⟨te, pe, ke⟩ := uniE he
  exact ⟨_, pe_lc hc hN pi ok pg pt pe hs, lc_read ki kg kt ke hch hv⟩
/-- x = [elt for ..], x a plain local name: it owns the list -/
theorem vs_setLc (i : Nat) {x : Str} {p spos : Pos} (ok : BlkOk X.N X.env.scope scope own) (hi : VI X W os tg iter fi os1) (hg : ∀ s H C cl fp, VG (blkX X scope s H C cl fp) os1 tg b ch os2) (ht : ∀ s H C cl fp, VTs (blkX X scope s H C cl fp) W0 os2 ifs tt os1)
    (he : ∀ s H C cl fp, VE (blkX X scope s H C cl fp) W0 os1 elt fe os1 false) (hN : X.N.Nodup) (hsw : swapsWith (.ListComp elt [⟨tg, iter, ifs, 0⟩] scope pos) (some (.Name x p)) spos.line X.env = pure true) (hx : X.N[i]? = some x := by rfl) (hxl : X.env.scope.names.lookup x = some .local := by rfl) (hfi : L.fx.getD i false = false := by rfl) (hio : i < os1.length := by decide) (hle : Le os1 os := by rfl)
    (hch : ∀ i ∈ ch, i ∈ own.map (·.2) := by decide) (hv : (own.map (·.2)).all (fun v => !os1.getD v false) = true := by rfl) (hc : X.calm = true := by rfl) (hs : ∀ x, foldedSetIterable iter X.env x = pure x := by intro _; rfl) :
    VS X W L os (.Assign [.Name x p] (.ListComp elt [⟨tg, iter, ifs, 0⟩] scope pos) spos) (sSet i (eComp (own.map (·.2)) fi b tt fe)) (os1.set i true) := by
  obtain ⟨wi, pi, ki⟩ := hi
  obtain ⟨g, pg, kg⟩ := uniG hg
  obtain ⟨t1, pt, kt⟩ := uniT ht
  obtain ⟨te, pe, ke⟩ := uniE he
  refine ⟨_, ps_setLc hc hN hx hxl hsw pi ok pg pt pe hs, fun S σ H ρ Ds rel P => ?_⟩
  refine lc_read ki kg kt ke hch hv S σ H ρ _ rel (Post.seq P (fun z => z) (fun _ _ p S' H' cls dd e q => p σ S' H' cls dd e q) fun d ρ1 v S1 H1 s1 r1 q1 P1 => ?_)
  refine P1 _ S1 H1 ⟨s1.ext, fun a q => ?_⟩ (fix_set hfi) (r1.setO q1.1 (fun a ea j hj ho hs => ?_) hio)
  · rcases own_setO q with q | q
    · exact s1.own a q
    · exact .inr (q1.2 a q)
  · obtain ⟨n, o, eo⟩ := rel.owned ⟨j, getD_le hle ho, hs⟩
    rw [q1.2 a ea] at eo
    cases eo
/-- what a name owns stands behind a statement -/
theorem VS.fz {st : Stmt} {g : Rho → Out Fl} (i : Nat) (h : VS X W L os st g osN) : VS X W L os st g (osN.set i false) := by
  obtain ⟨t, p, k⟩ := h
  refine ⟨t, p, fun S σ H ρ Ds rel P => k S σ H ρ Ds rel ?_⟩
  cases e : g ρ with
  | ok z =>
    rw [e] at P
    cases z with
    | nx ρ' =>
      intro σ' S' H' s' f' r'
      obtain ⟨S'', _, r'', s'', _⟩ := freeze1 r' i
      exact P σ' S'' H' (s'.trans s'') f' r''
    | bk ρ' => exact P
    | ct ρ' => exact P
    | rt d ρ' => exact P
  | exc c fs => rw [e] at P; exact P
  | stuck => rw [e] at P; exact P
theorem VSs.fz {st : List Stmt} {g : Rho → Out Fl} (i : Nat) (h : VSs X W L os st g osN) : VSs X W L os st g (osN.set i false) := by
  obtain ⟨t, p, k⟩ := h
  refine ⟨t, p, fun S σ H ρ Ds rel P => k S σ H ρ Ds rel ?_⟩
  cases e : g ρ with
  | ok z =>
    rw [e] at P
    cases z with
    | nx ρ' =>
      intro σ' S' H' s' f' r'
      obtain ⟨S'', _, r'', s'', _⟩ := freeze1 r' i
      exact P σ' S'' H' (s'.trans s'') f' r''
    | bk ρ' => exact P
    | ct ρ' => exact P
    | rt d ρ' => exact P
  | exc c fs => rw [e] at P; exact P
  | stuck => rw [e] at P; exact P
end
end SW

set_option maxRecDepth 100000
/-! SW7: operators, comparisons, subscripts, slices, built-ins, methods that turn an owned list. -/
namespace SW
open PySem PySem.Spec PyProof.Rows L2

section
variable {X : Cx} {S H : Hp}
/-! ### numbers -/
def iop2 (c : Int → Int → Bool) (g : Int → Int → D) : D → D → Option D
  | .int i, .int j => if c i j = true then some (g i j) else none
  | _, _ => none
theorem op2_int {f : Value → Value → Sem Value} {C : Int → Int → Prop} {gv : Int → Int → V} {c : Int → Int → Bool} {g : Int → Int → D} (ho : OpR X f (rI C gv)) (hc : ∀ i j, c i j = true → C i j) (hg : ∀ K S i j, At K S (gv i j) (g i j)) : Op2 X f (iop2 c g) := by
  refine ⟨_, ho, fun S H x y a b d Q sub ha hb e k => ?_⟩
  cases ha with
  | int i =>
    cases hb with
    | int j =>
      have e : (if c i j = true then some (g i j) else none) = some d := e
      split at e
      · rename_i h
        cases e
        exact ⟨i, j, rfl, rfl, hc i j h, k _ S H (Ext.refl sub) (hg _ _ _ _)⟩
      · cases e
    | _ => cases e
  | _ => cases e
theorem Op2.or {f : Value → Value → Sem Value} {g1 g2 : D → D → Option D} (h1 : Op2 X f g1) (h2 : Op2 X f g2) : Op2 X f (fun a b => match g1 a b with | some c => some c | none => g2 a b) := by
  obtain ⟨r1, o1, k1⟩ := h1
  obtain ⟨r2, o2, k2⟩ := h2
  refine ⟨fun x y H Q => r1 x y H Q ∨ r2 x y H Q, fun pins s σ H x y v u Q I rx ry q => ?_, fun S H x y a b c Q sub ha hb e k => ?_⟩
  · rcases q with q | q
    · exact o1 pins s σ H x y v u Q I rx ry q
    · exact o2 pins s σ H x y v u Q I rx ry q
  · dsimp only at e
    cases e1 : g1 a b with
    | some c1 =>
      rw [e1] at e
      cases e
      exact .inl (k1 S H x y a b _ Q sub ha hb e1 k)
    | none =>
      rw [e1] at e
      exact .inr (k2 S H x y a b c Q sub ha hb e k)
def always (_ _ : Int) : Bool := true
def bits2 (i j : Int) : Bool := decide (i.natAbs.log2 + j.natAbs.log2 < 134000000) || decide (i.natAbs < 2 ^ 63) || decide (j.natAbs < 2 ^ 63)
theorem mul_wide {i j : Int} (h3 : i.natAbs.log2 + j.natAbs.log2 < 134000000) : IntMulOk i j := by
  have b : ∀ x : Int, Builtin.Int.intBits x ≤ x.natAbs.log2 + 1 := fun x => by
    unfold Builtin.Int.intBits
    split <;> omega
  have h1 := b i
  have h2 := b j
  have e : bitsLine = 134217728 := by decide
  unfold IntMulOk
  intro z
  rw [Bool.and_eq_true] at z
  have z2 : decide ((((Builtin.Int.intBits i + Builtin.Int.intBits j : Nat) : Int)) > bitsLine) = true := z.2
  have z3 := of_decide_eq_true z2
  rw [e] at z3
  omega
theorem bits2_ok {i j : Int} (h : bits2 i j = true) : IntMulOk i j := by
  unfold bits2 at h
  rw [Bool.or_eq_true, Bool.or_eq_true] at h
  rcases h with (h | h) | h
  · have h' : i.natAbs.log2 + j.natAbs.log2 < 134000000 := of_decide_eq_true h
    exact mul_wide h'
  · have h := of_decide_eq_true h
    exact .of_left (intBits_le_64 (by omega) (by omega))
  · have h := of_decide_eq_true h
    exact .of_right (intBits_le_64 (by omega) (by omega))
theorem rI0_rI {f : Value → Value → Sem Value} {g : Int → Int → V} (h : OpR X f (rI0 g)) : OpR X f (rI (fun _ _ => True) g) := fun pins s σ H x y v u Q I rx ry ⟨i, j, e1, e2, _, q⟩ => h pins s σ H x y v u Q I rx ry ⟨i, j, e1, e2, q⟩
theorem op_mulA : OpR X (binaryOp .Mult) (rI IntMulOk fun i j => .int (i * j)) := opI fun _ _ _ _ _ _ _ hc q => mul_int q hc
def fdivOk (_ j : Int) : Bool := j != 0

theorem strKeys_of {es : Array DictEntry} (h : strKeysB es = true) : StrKeys es := fun e he => by
  have q := List.all_eq_true.mp h e (Array.mem_toList_iff.mpr he)
  cases z : e.key with
  | str n t => exact ⟨n, t, rfl⟩
  | _ => rw [z] at q; cases q
theorem noneAt_of {es : Array DictEntry} {x : Str} (h : noneAt es x = true) : nsFind es x = none := by
  unfold noneAt at h
  exact Option.isNone_iff_eq_none.mp h
theorem seer_of {K : PySem.W.Frag} {h : Heap} {mg : Str → Option Value} (hK : K.In h) (hb : ∃ mb, h.Ns builtinsNs mb ∧ ∀ x : Str, x ≠ "__name__" → mb x = bootBuiltins x) (hg : h.Ns mainGlobals mg) (b : seerB K = true) : h.NoSeer := by
  unfold seerB at b
  obtain ⟨b1, b'⟩ := Bool.and_eq_true_iff.mp b
  obtain ⟨b2, b3⟩ := Bool.and_eq_true_iff.mp b'
  refine ⟨?_, ?_, hb, ?_⟩
  · split at b1
    · rename_i c d es ep sl e
      obtain ⟨k, q⟩ := Bool.and_eq_true_iff.mp b1
      obtain ⟨q1, q2⟩ := Bool.and_eq_true_iff.mp q
      exact ⟨nsFind es, ⟨_, es, ep, hK _ _ e, rfl, strKeys_of k, fun _ => rfl⟩, noneAt_of q1, noneAt_of q2⟩
    · cases b1
  · split at b2
    · rename_i c d es ep sl e
      obtain ⟨k, q1⟩ := Bool.and_eq_true_iff.mp b2
      exact ⟨nsFind es, ⟨_, es, ep, hK _ _ e, rfl, strKeys_of k, fun _ => rfl⟩, noneAt_of q1⟩
    · cases b2
  · split at b3
    · rename_i bm e
      split at b3
      · rename_i x d dt sl e2
        obtain ⟨q1, q2⟩ := Bool.and_eq_true_iff.mp b3
        refine ⟨mg, bm, _, hg, PySem.W.mg_of hK hg e, hK _ _ e2, ?_, ?_⟩
        · show Value.type x = Value.type "module"
          rw [eq_of_beq q1]
        · show some d = some builtinsNs
          rw [eq_of_beq q2]
      · cases b3
    · cases b3
/-- what a division by a divisor of any size asks of the context -/
structure Dv (X : Cx) : Prop where
  seer : seerB X.K = true
  tree : X.prog.given.tree = none
  dp : X.A.depth + 100 < recursionLimit
  st : ∃ env l, X.stack = env :: l ∧ env.scope.isGenerator = false ∧ env.scope.isCoroutine = false ∧ env.builtins = builtinsNs ∧ env.globals = mainGlobals
theorem dv_room {k : Nat} {A : Around} (r : Room k A) (h : 32 ≤ k) : A.depth + 100 < recursionLimit := by have := r.dp; omega
theorem op_fdivP (hd : Dv X) : OpR X (binaryOp .FloorDiv) (rI (fun _ j => j ≠ 0) fun i j => .int (i.fdiv j)) := by
  intro pins s σ H x y v u Q I rx ry h
  obtain ⟨i, j, rfl, rfl, hc, q⟩ := h
  obtain ⟨t, rfl⟩ := rx
  obtain ⟨t', rfl⟩ := ry
  obtain ⟨env, l, e, g1, g2, g3, g4⟩ := hd.st
  obtain ⟨mb, hb, hb2⟩ := I.ok.mod.blt
  have hN : s.heap.NoSeer := seer_of I.kIn ⟨mb, hb.keeps I.bk, hb2⟩ (I.ok.mod.glob.keeps I.bk) hd.seer
  exact floordiv_int hc ⟨.int (i.fdiv j), H, I.tok _, ⟨_, rfl⟩, q⟩ (.inr (PylongRoom.of I.nolimit hd.dp (SeerAt.of hN hd.tree (I.ok.frames.trans (congrArg some e)) g1 g2 g3 g4)))
def addI := iop2 always fun i j => .int (i + j)
def subD := iop2 always fun i j => .int (i - j)
def mulI := iop2 bits2 fun i j => .int (i * j)
def fdivD := iop2 fdivOk fun i j => .int (i.fdiv j)
def modD := iop2 (fun _ j => j != 0) fun i j => .int (i.fmod j)
def powOk (i j : Int) : Bool := decide (0 ≤ j) && decide (j ≤ 1000000) && decide (i.natAbs < 2 ^ 64)
def powD := iop2 powOk fun i j => .int (i ^ j.toNat)
theorem o_addI : Op2 X (binaryOp .Add) addI := op2_int (rI0_rI op_add) (fun _ _ _ => trivial) fun _ _ _ _ => .int _
theorem o_sub : Op2 X (binaryOp .Sub) subD := op2_int (rI0_rI op_sub) (fun _ _ _ => trivial) fun _ _ _ _ => .int _
theorem o_mulI : Op2 X (binaryOp .Mult) mulI := op2_int op_mulA (fun _ _ h => bits2_ok h) fun _ _ _ _ => .int _
theorem o_fdiv (hd : Dv X) : Op2 X (binaryOp .FloorDiv) fdivD := op2_int (op_fdivP hd) (fun _ j h => by
  unfold fdivOk at h
  simpa using h) fun _ _ _ _ => .int _
theorem o_mod : Op2 X (binaryOp .Mod) modD := op2_int op_modN (fun _ j h => by simpa using h) fun _ _ _ _ => .int _
theorem powOk_iff {i j : Int} (h : powOk i j = true) : CPow i j := by
  unfold powOk at h
  rw [Bool.and_eq_true, Bool.and_eq_true] at h
  exact ⟨of_decide_eq_true h.1.1, of_decide_eq_true h.1.2, of_decide_eq_true h.2⟩
theorem o_pow : Op2 X (binaryOp .Pow) powD := op2_int op_pow (fun _ _ h => powOk_iff h) fun _ _ _ _ => .int _
def ltI := iop2 always fun i j => .bl (decide (i < j))
def leI := iop2 always fun i j => .bl (decide (i ≤ j))
def gtI := iop2 always fun i j => .bl (decide (j < i))
def geI := iop2 always fun i j => .bl (decide (j ≤ i))
theorem o_ltI : Op2 X (compareOp .Lt) ltI := op2_int (rI0_rI op_lt) (fun _ _ _ => trivial) fun _ _ _ _ => .bl _
theorem o_leI : Op2 X (compareOp .LtE) leI := op2_int (rI0_rI op_le) (fun _ _ _ => trivial) fun _ _ _ _ => .bl _
theorem o_gtI : Op2 X (compareOp .Gt) gtI := op2_int (rI0_rI op_gt) (fun _ _ _ => trivial) fun _ _ _ _ => .bl _
theorem o_geI : Op2 X (compareOp .GtE) geI := op2_int (rI0_rI op_ge) (fun _ _ _ => trivial) fun _ _ _ _ => .bl _
def negD : D → Option D
  | .int i => some (.int (-i))
  | _ => none
theorem o_neg : Op1 X (unaryOp .USub) negD := ⟨_, un_neg, fun S H x a c Q sub ha e k => by
  cases ha with
  | int i => cases e; exact ⟨i, rfl, k _ S H (Ext.refl sub) (.int _)⟩
  | _ => cases e⟩

/-! ### data that are compared -/
mutual
def D.py : D → Option PyData
  | .non => some .none
  | .bl b => some (.bool b)
  | .int i => some (.int i)
  | .str x => some (.str x)
  | .tup xs => (D.pyL xs).map .tuple
  | .lst xs => (D.pyL xs).map .list
  | .scr ns => some (.list (ns.map .int))
  | .dct _ => none
  | .ins _ _ => none
  | .exc _ _ => none
  | .ty _ => none
def D.pyL : List D → Option (List PyData)
  | [] => some []
  | x :: xs => match D.py x, D.pyL xs with
    | some p, some ps => some (p :: ps)
    | _, _ => none
end
theorem dp_ints {K : PySem.W.Frag} {H : Hp} : ∀ ns : List Int, DpAll K H (ns.map V.int) (ns.map PyData.int)
  | [] => .nil
  | n :: ns => .cons (.int n) (dp_ints ns)
mutual
theorem At.dp {K : PySem.W.Frag} {S : Hp} : ∀ {v : V} {d : D} {p : PyData}, At K S v d → d.py = some p → Dp K S v p
  | _, _, _, .non, e => by cases e; exact .non
  | _, _, _, .bl b, e => by cases e; exact .bl b
  | _, _, _, .int i, e => by cases e; exact .int i
  | _, _, _, .str x, e => by cases e; exact .str x
  | _, .tup ds, _, .tup h z r, e => by
    unfold D.py at e
    cases q : D.pyL ds with
    | none => rw [q] at e; cases e
    | some ps => rw [q] at e; cases e; exact .tup h (AtL.dp r q)
  | _, .lst ds, _, .lst h z r, e => by
    unfold D.py at e
    cases q : D.pyL ds with
    | none => rw [q] at e; cases e
    | some ps => rw [q] at e; cases e; exact .lst (.of h) (AtL.dp r q)
  | _, _, _, .scr h z, e => by cases e; exact .lst h (dp_ints _)
  | _, _, _, .dct _ _ _ _, e => by cases e
  | _, _, _, .ins _ _ _ _ _, e => by cases e
  | _, _, _, .exc0 _ _, e => by cases e
  | _, _, _, .exc1 _ _ _ _, e => by cases e
  | _, _, _, .ty _ _, e => by cases e
theorem AtL.dp {K : PySem.W.Frag} {S : Hp} : ∀ {vs : List V} {ds : List D} {ps : List PyData}, AtL K S vs ds → D.pyL ds = some ps → DpAll K S vs ps
  | _, _, _, .nil, e => by cases e; exact .nil
  | _, d :: ds, _, .cons h r, e => by
    unfold D.pyL at e
    cases q1 : D.py d with
    | none => rw [q1] at e; cases e
    | some p =>
      cases q2 : D.pyL ds with
      | none => rw [q1, q2] at e; cases e
      | some ps => rw [q1, q2] at e; cases e; exact .cons (At.dp h q1) (AtL.dp r q2)
end
def cmpP (g : PyData → PyData → Bool) (ok : PyData → PyData → Bool) : D → D → Option D := fun a b => match a.py, b.py with
  | some p, some q => if ok p q = true then some (.bl (g p q)) else none
  | _, _ => none
theorem cmpP_some {g ok} {a b c : D} (h : cmpP g ok a b = some c) : ∃ p q, a.py = some p ∧ b.py = some q ∧ ok p q = true ∧ c = .bl (g p q) := by
  unfold cmpP at h
  cases e1 : a.py with
  | none => rw [e1] at h; cases h
  | some p =>
    cases e2 : b.py with
    | none => rw [e1, e2] at h; cases h
    | some q =>
      rw [e1, e2] at h
      dsimp only at h
      split at h
      · rename_i ho
        cases h
        exact ⟨p, q, rfl, rfl, ho, rfl⟩
      · cases h
def shOk (p q : PyData) : Bool := SeqAt.shaped p && SeqAt.shaped q
def eqD := cmpP PyData.eqv shOk
def neD := cmpP (fun p q => !PyData.eqv p q) shOk
theorem o_eq (hu : X.A.units + 64 < cLine) : Op2 X (compareOp .Eq) eqD := ⟨_, op_eqD hu, fun S H x y a b c Q sub ha hb e k => by
  obtain ⟨p, q, e1, e2, ho, rfl⟩ := cmpP_some e
  unfold shOk at ho
  rw [Bool.and_eq_true] at ho
  exact ⟨p, q, (ha.mono sub).dp e1, (hb.mono sub).dp e2, ho.1, ho.2, k _ S H (Ext.refl sub) (.bl _)⟩⟩
theorem o_ne (hu : X.A.units + 64 < cLine) : Op2 X (compareOp .NotEq) neD := ⟨_, op_neD hu, fun S H x y a b c Q sub ha hb e k => by
  obtain ⟨p, q, e1, e2, ho, rfl⟩ := cmpP_some e
  unfold shOk at ho
  rw [Bool.and_eq_true] at ho
  exact ⟨p, q, (ha.mono sub).dp e1, (hb.mono sub).dp e2, ho.1, ho.2, k _ S H (Ext.refl sub) (.bl _)⟩⟩
def notNone : PyData → Bool
  | .none => false
  | _ => true
def alOk (p q : PyData) : Bool := PySem.W.alike p q && notNone p && decide (p.depth ≤ 64)
def rOrd (K : PySem.W.Frag) (g : PyData → PyData → Bool) : R2 := fun x y H Q => ∃ p q, Dp K H x p ∧ Dp K H y q ∧ alOk p q = true ∧ Q (.bl (g p q)) H
theorem alOk_iff {p q : PyData} (h : alOk p q = true) : PySem.W.alike p q = true ∧ p ≠ .none ∧ p.depth ≤ 64 := by
  unfold alOk at h
  rw [Bool.and_eq_true, Bool.and_eq_true] at h
  refine ⟨h.1.1, fun z => ?_, of_decide_eq_true h.2⟩
  rw [z] at h
  cases h.1.2
theorem op_ord {op : CmpOp} {g : PyData → PyData → Bool} (hu : X.A.units + 64 < cLine)
    (rule : ∀ {E : Value → Shared → Prop} {s : Shared} {a b : Value} {da db : PyData} {as bs : List Addr} {Q : Value → Shared → Prop}, Reads s.heap a da as → Reads s.heap b db bs → PySem.W.alike da db = true → da ≠ .none → X.A.units + min da.depth db.depth < cLine → Q (.bool (g da db)) s → wpAny (model X.prog X.w) X.A (compareOp op a b) Q E s) :
    OpR X (compareOp op) (rOrd X.K g) := by
  intro pins s σ H x y v u Q I rx ry h
  obtain ⟨d, e, hd, he, ok, q⟩ := h
  obtain ⟨al, nn, dp⟩ := alOk_iff ok
  obtain ⟨as, r1⟩ := Dp.reads I d x v hd rx
  obtain ⟨bs, r2⟩ := Dp.reads I e y u he ry
  exact rule r1 r2 al nn (by have := Nat.min_le_left d.depth e.depth; omega) ⟨.bl _, H, I, rfl, q⟩
theorem o_ord {op : CmpOp} {g : PyData → PyData → Bool} (h : OpR X (compareOp op) (rOrd X.K g)) : Op2 X (compareOp op) (cmpP g alOk) := ⟨_, h, fun S H x y a b c Q sub ha hb e k => by
  obtain ⟨p, q, e1, e2, ho, rfl⟩ := cmpP_some e
  exact ⟨p, q, (ha.mono sub).dp e1, (hb.mono sub).dp e2, ho, k _ S H (Ext.refl sub) (.bl _)⟩⟩
def ltD := cmpP PySem.W.dataLt alOk
def gtD := cmpP (fun p q => PySem.W.dataLt q p) alOk
def leD := cmpP (fun p q => !PySem.W.dataLt q p) alOk
def geD := cmpP (fun p q => !PySem.W.dataLt p q) alOk
theorem o_lt (hu : X.A.units + 64 < cLine) : Op2 X (compareOp .Lt) ltD := o_ord (op_ord hu fun a b c d e f => PySem.W.lt_data a b c d e f)
theorem o_gt (hu : X.A.units + 64 < cLine) : Op2 X (compareOp .Gt) gtD := o_ord (op_ord hu fun a b c d e f => PySem.W.gt_data a b c d e f)
theorem o_le (hu : X.A.units + 64 < cLine) : Op2 X (compareOp .LtE) leD := o_ord (op_ord hu fun a b c d e f => PySem.W.le_data a b c d e f)
theorem o_ge (hu : X.A.units + 64 < cLine) : Op2 X (compareOp .GtE) geD := o_ord (op_ord hu fun a b c d e f => PySem.W.ge_data a b c d e f)
/-- in a list (or a tuple's list) of data -/
def inD : D → D → Option D := fun a b => match b with
  | .lst ds => match a.py, D.pyL ds with
    | some p, some qs => if SeqAt.shaped p = true ∧ SeqAt.shaped (.list qs) = true then some (.bl (qs.any fun z => PyData.eqv z p)) else none
    | _, _ => none
  | _ => none
theorem o_in (hu : X.A.units + 65 < cLine) : Op2 X (compareOp .In) inD := ⟨_, op_inD hu, fun S H x y a b c Q sub ha hb e k => by
  cases hb with
  | @lst aa vs ds h z r =>
    have e : (match a.py, D.pyL ds with
    | some p, some qs => if SeqAt.shaped p = true ∧ SeqAt.shaped (.list qs) = true then some (.bl (qs.any fun z => PyData.eqv z p)) else none
    | _, _ => none) = some c := e
    cases e1 : a.py with
    | none => rw [e1] at e; cases e
    | some p =>
      cases e2 : D.pyL ds with
      | none => rw [e1, e2] at e; cases e
      | some qs =>
        rw [e1, e2] at e
        dsimp only at e
        split at e
        · rename_i ho
          cases e
          exact ⟨p, qs, (ha.mono sub).dp e1, .lst (.of (sub _ _ h)) ((r.mono sub).dp e2), ho.1, ho.2, k _ S H (Ext.refl sub) (.bl _)⟩
        · cases e
  | _ => cases e⟩
/-! ### sums of tuples, lists, texts -/
def catT : D → D → Option D
  | .tup xs, .tup ys => if xs.length + ys.length ≤ sizeLine then some (.tup (xs ++ ys)) else none
  | _, _ => none
def catL : D → D → Option D
  | .lst xs, .lst ys => if xs.length + ys.length ≤ sizeLine then some (.lst (xs ++ ys)) else none
  | _, _ => none
def catS : D → D → Option D
  | .str x, .str y => if x.length + y.length ≤ sizeLine then some (.str (x ++ y)) else none
  | _, _ => none
theorem o_catT : Op2 X (binaryOp .Add) catT := ⟨_, op_catA, fun S H x y a b c Q sub ha hb e k => by
  cases ha with
  | @tup p vs xs h z r =>
    cases hb with
    | @tup p2 vs2 ys h2 z2 r2 =>
      have e : (if xs.length + ys.length ≤ sizeLine then some (D.tup (xs ++ ys)) else none) = some c := e
      split at e
      · rename_i hz
        cases e
        have l1 := r.length
        have l2 := r2.length
        refine ⟨p, p2, vs, vs2, rfl, rfl, sqT_mono sub h, sqT_mono sub h2, by rw [l1, l2]; exact hz, fun hx => ?_, fun hx hy => ?_, fun hx hy q nq => ?_⟩
        · subst hx
          cases r
          exact k _ S H (Ext.refl sub) (.tup h2 z2 r2)
        · subst hy
          cases r2
          refine k _ S H (Ext.refl sub) ?_
          rw [List.append_nil]
          exact .tup h z r
        · have xx := Ext.new (O := fun _ => False) (o := .tup (vs ++ vs2)) sub nq
          exact k _ _ _ xx (.tup (.inl (.inl upd_same)) (by rw [List.length_append]; exact hz) ((r.append r2).mono xx.s))
      · cases e
    | _ => cases e
  | _ => cases e⟩
theorem o_catL : Op2 X (binaryOp .Add) catL := ⟨_, op_cat, fun S H x y a b c Q sub ha hb e k => by
  cases ha with
  | @lst p vs xs h z r =>
    cases hb with
    | @lst p2 vs2 ys h2 z2 r2 =>
      have e : (if xs.length + ys.length ≤ sizeLine then some (D.lst (xs ++ ys)) else none) = some c := e
      split at e
      · rename_i hz
        cases e
        have l1 := r.length
        have l2 := r2.length
        refine ⟨p, p2, vs, vs2, rfl, rfl, sub _ _ h, sub _ _ h2, by rw [l1, l2]; exact hz, fun q nq => ?_⟩
        have xx := Ext.new (O := fun _ => False) (o := .lst (vs ++ vs2)) sub nq
        exact k _ _ _ xx (.lst upd_same (by rw [List.length_append]; exact hz) ((r.append r2).mono xx.s))
      · cases e
    | _ => cases e
  | _ => cases e⟩
theorem o_catS : Op2 X (binaryOp .Add) catS := ⟨_, op_add_str, fun S H x y a b c Q sub ha hb e k => by
  cases ha with
  | str i =>
    cases hb with
    | str j =>
      have e : (if i.length + j.length ≤ sizeLine then some (D.str (i ++ j)) else none) = some c := e
      split at e
      · rename_i hz
        cases e
        exact ⟨i, j, rfl, rfl, hz, k _ S H (Ext.refl sub) (.str _)⟩
      · cases e
    | _ => cases e
  | _ => cases e⟩
/-- +, whatever is added -/
def addD : D → D → Option D
  | .int i, .int j => some (.int (i + j))
  | .tup xs, .tup ys => if xs.length + ys.length ≤ sizeLine then some (.tup (xs ++ ys)) else none
  | .lst xs, .lst ys => if xs.length + ys.length ≤ sizeLine then some (.lst (xs ++ ys)) else none
  | .str x, .str y => if x.length + y.length ≤ sizeLine then some (.str (x ++ y)) else none
  | _, _ => none
theorem Op2.imp {f : Value → Value → Sem Value} {g g' : D → D → Option D} (h : Op2 X f g) (hg : ∀ a b c, g' a b = some c → g a b = some c) : Op2 X f g' := by
  obtain ⟨r, o, k⟩ := h
  exact ⟨r, o, fun S H x y a b c Q sub ha hb e q => k S H x y a b c Q sub ha hb (hg a b c e) q⟩
theorem o_add : Op2 X (binaryOp .Add) addD := (((o_addI.or o_catT).or o_catL).or o_catS).imp fun a b c h => by
  cases a <;> cases b <;> first
    | exact (nomatch (show (none : Option D) = some c from h))
    | exact h
    | (simp only [addD] at h; simp only [addI, iop2, always, catT, catL, catS]; split at h <;> simp_all)
/-- a list times a number, a tuple times a number -/
def repD : D → D → Option D
  | .int i, .int j => if bits2 i j = true then some (.int (i * j)) else none
  | .lst xs, .int k => if -9223372036854775808 ≤ k ∧ k < 9223372036854775808 ∧ xs.length * k.toNat ≤ sizeLine then some (.lst (List.replicate k.toNat xs).flatten) else none
  | .tup xs, .int k => if xs ≠ [] ∧ 2 ≤ k ∧ k ≤ 1000 ∧ xs.length ≤ 1000 then some (.tup (List.replicate k.toNat xs).flatten) else none
  | _, _ => none
theorem AtL.rep {K : PySem.W.Frag} {vs : List V} {ds : List D} (h : AtL K S vs ds) : ∀ k : Nat, AtL K S (List.replicate k vs).flatten (List.replicate k ds).flatten
  | 0 => .nil
  | k + 1 => by
    rw [List.replicate_succ, List.replicate_succ, List.flatten_cons, List.flatten_cons]
    exact h.append (AtL.rep h k)
theorem rep_len {α : Type} (ds : List α) : ∀ k : Nat, (List.replicate k ds).flatten.length = k * ds.length
  | 0 => by simp
  | k + 1 => by rw [List.replicate_succ, List.flatten_cons, List.length_append, rep_len ds k]; rw [Nat.succ_mul]; omega
def repL : D → D → Option D
  | .lst xs, .int k => if -9223372036854775808 ≤ k ∧ k < 9223372036854775808 ∧ xs.length * k.toNat ≤ sizeLine then some (.lst (List.replicate k.toNat xs).flatten) else none
  | _, _ => none
def repT : D → D → Option D
  | .tup xs, .int k => if xs ≠ [] ∧ 2 ≤ k ∧ k ≤ 1000 ∧ xs.length ≤ 1000 then some (.tup (List.replicate k.toNat xs).flatten) else none
  | _, _ => none
theorem o_repL : Op2 X (binaryOp .Mult) repL := ⟨_, op_rep, fun S H x y a b c Q sub ha hb e k => by
  cases ha with
  | @lst p vs xs h z r =>
    cases hb with
    | int j =>
      have e : (if -9223372036854775808 ≤ j ∧ j < 9223372036854775808 ∧ xs.length * j.toNat ≤ sizeLine then some (D.lst (List.replicate j.toNat xs).flatten) else none) = some c := e
      split at e
      · rename_i hz
        cases e
        refine ⟨p, j, vs, rfl, rfl, sub _ _ h, by omega, by omega, by rw [r.length]; exact hz.2.2, fun q nq => ?_⟩
        have xx := Ext.new (O := fun _ => False) (o := .lst (List.replicate j.toNat vs).flatten) sub nq
        exact k _ _ _ xx (.lst upd_same (by rw [rep_len, Nat.mul_comm]; exact hz.2.2) ((r.rep _).mono xx.s))
      · cases e
    | _ => cases e
  | _ => cases e⟩
theorem o_repT : Op2 X (binaryOp .Mult) repT := ⟨_, op_repT, fun S H x y a b c Q sub ha hb e k => by
  cases ha with
  | @tup p vs xs h z r =>
    cases hb with
    | int j =>
      have e : (if xs ≠ [] ∧ 2 ≤ j ∧ j ≤ 1000 ∧ xs.length ≤ 1000 then some (D.tup (List.replicate j.toNat xs).flatten) else none) = some c := e
      split at e
      · rename_i hz
        cases e
        refine ⟨p, j, vs, rfl, rfl, sqT_mono sub h, fun q => ?_, hz.2.1, hz.2.2.1, by rw [r.length]; exact hz.2.2.2, fun q nq => ?_⟩
        · subst q
          cases r
          exact hz.1 rfl
        · have xx := Ext.new (O := fun _ => False) (o := .tup (List.replicate j.toNat vs).flatten) sub nq
          refine k _ _ _ xx (.tup (.inl (.inl upd_same)) ?_ ((r.rep _).mono xx.s))
          rw [rep_len, sizeLine_is]
          have h1 : j.toNat ≤ 1000 := by omega
          have h2 : xs.length ≤ 1000 := hz.2.2.2
          have := Nat.mul_le_mul h1 h2
          omega
      · cases e
    | _ => cases e
  | _ => cases e⟩
theorem o_mul : Op2 X (binaryOp .Mult) repD := ((o_mulI.or o_repL).or o_repT).imp fun a b c h => by
  cases a <;> cases b <;> first
    | exact (nomatch (show (none : Option D) = some c from h))
    | exact h
    | (simp only [repD] at h; simp only [mulI, iop2, repL, repT]; split at h <;> simp_all)
end
end SW

set_option maxRecDepth 100000
/-! SW8: a look (peek), subscripts, slices, built-ins, methods that turn an owned list. -/
namespace SW
open PySem PySem.Spec PyProof.Rows L2

def flatD : D → Bool
  | .non => true
  | .bl _ => true
  | .int _ => true
  | .str _ => true
  | .ty _ => true
  | _ => false
section
variable {K : PySem.W.Frag} {S S' H H' : Hp} {os : Os} {σ : Sg} {ρ : Rho}
/-- what owned cells hold stands for a while -/
structure Look (S H : Hp) (os : Os) (σ : Sg) (S1 : Hp) : Prop where
  s : Same S S1
  sh : Same S1 H
  out : ∀ a, ¬ Own os σ a → S1 a = S a
  own : ∀ a, Own os σ a → S1 a = H a
theorem freezeAll (r : Rel K S H os σ ρ) : ∃ S1, Look S H os σ S1 ∧ Rel K S1 H [] σ ρ := by
  classical
  have lk : Look S H os σ (fun a => if Own os σ a then H a else S a) := by
    refine ⟨fun a o e => ?_, fun a o e => ?_, fun a z => if_neg z, fun a z => if_pos z⟩
    · have no : ¬ Own os σ a := fun z => by rw [(r.owned z).1] at e; cases e
      show (if Own os σ a then H a else S a) = some o
      rw [if_neg no]; exact e
    · have e : (if Own os σ a then H a else S a) = some o := e
      by_cases z : Own os σ a
      · rw [if_pos z] at e; exact e
      · rw [if_neg z] at e; exact r.sub a o e
  refine ⟨_, lk, ⟨lk.sh, r.len, fun i x y e1 e2 => ?_, fun i j a h1 => by simp [List.getD] at h1⟩⟩
  have q := r.slot i x y e1 e2
  have hf : ([] : Os).getD i false = false := by simp [List.getD]
  rw [hf]
  cases ho : os.getD i false <;> rw [ho] at q <;> cases x <;> cases y <;> simp only [SlotAt] at q ⊢
  · exact q.mono lk.s
  · rename_i v d
    obtain ⟨a, ea, na, q⟩ := q
    subst ea
    have own : Own os σ a := ⟨i, ho, e1⟩
    obtain ⟨o, eh, bd⟩ := q
    exact (bd.mono lk.s).at ((lk.own a own).trans eh)
/-- nothing that the slots own has been touched: they own it still -/
theorem Look.back {S1 : Hp} (lk : Look S H os σ S1) (r : Rel K S H os σ ρ) (x : Ext (Own [] σ) S1 H S' H') : Rel K S H' os σ ρ ∧ Stp os σ S H os σ S H' := by
  have keep : ∀ a o, Own os σ a → H a = some o → H' a = some o := fun a o z e => x.sh a o (x.s a o ((lk.own a z).trans e))
  have sh : Same S H' := fun a o e => x.sh a o (x.s a o (lk.s a o e))
  refine ⟨⟨sh, r.len, fun i v d e1 e2 => ?_, r.sep⟩, ⟨⟨Same.refl _, sh, fun a o e n no => ⟨?_, n⟩, x.there⟩, fun a q => .inl q⟩⟩
  · have q := r.slot i v d e1 e2
    cases ho : os.getD i false <;> rw [ho] at q <;> cases v <;> cases d <;> simp only [SlotAt] at q ⊢
    · exact q
    · rename_i v d
      obtain ⟨a, ea, na, q⟩ := q
      subst ea
      have own : Own os σ a := ⟨i, ho, e1⟩
      refine ⟨a, rfl, na, ?_⟩
      obtain ⟨o, eh, bd⟩ := q
      exact ⟨o, keep a _ own eh, bd⟩
  · exact (x.fr a o e ((lk.out a no).trans n) fun z => own_nil z).1
theorem Look.exc {S1 : Hp} (lk : Look S H os σ S1) (x : Ext (Own [] σ) S1 H S' H') : Ext (Own os σ) S H S' H' :=
  ⟨lk.s.trans x.s, x.sh, fun a o e n no => x.fr a o e ((lk.out a no).trans n) fun z => own_nil z, x.there⟩
end

section
variable {X : Cx} {W : WX} {L : Lc} {os os1 os2 os3 osN : Os} {e e1 e2 : Expr} {f f1 f2 : Rho → Out (D × Rho)} {pos p apos : Pos} {es : List Expr} {g : Rho → Out (List D × Rho)}
def ePeek (f : Rho → Out (D × Rho)) : Rho → Out (D × Rho) := fun ρ => (f ρ).bind fun p => if flatD p.1 = true then .ok (p.1, ρ) else .stuck
def tPeek (f : Rho → Out (Bool × Rho)) : Rho → Out (Bool × Rho) := fun ρ => (f ρ).bind fun p => .ok (p.1, ρ)
theorem vt_peek {c : Expr} {g : Rho → Out (Bool × Rho)} (h : VT X W [] c g os1) (hos : os1 = [] := by rfl) : VT X W os c (tPeek g) os := by
  subst hos
  obtain ⟨t, p, k⟩ := h
  refine ⟨t, p, fun S σ H ρ Q rel P => ?_⟩
  obtain ⟨S1, lk, rel1⟩ := freezeAll rel
  refine k S1 σ H ρ Q rel1 ?_
  unfold tPeek at P
  cases h : g ρ with
  | exc c fs => rw [h] at P; exact fun S' H' cls dd x q => P S' H' cls dd (lk.exc x) q
  | stuck => rw [h] at P; exact P.elim
  | ok z =>
    obtain ⟨d, ρ'⟩ := z
    rw [h] at P
    intro v S' H' st _ hv
    obtain ⟨rel2, st2⟩ := lk.back rel st.ext
    exact P v S H' st2 rel2 hv

/-! ### subscripts -/
def strIx (z : Str) (i : Int) : Option D := if z.length ≤ sizeLine then (atI z.cps.toList i).map fun c => .str ⟨#[c]⟩ else none
def ixD : D → D → Option D
  | .lst ds, .int i => atI ds i
  | .tup ds, .int i => atI ds i
  | .scr ns, .int i => (atI ns i).map .int
  | .str z, .int i => strIx z i
  | _, _ => none
theorem atI_at {K : PySem.W.Frag} {S : Hp} {vs : List V} {ds : List D} {i : Int} {d : D} (r : AtL K S vs ds) (h : atI ds i = some d) : ∃ v, atI vs i = some v ∧ At K S v d := by
  unfold atI at h ⊢
  rw [r.length]
  cases e : ixN ds.length i with
  | none => rw [e] at h; cases h
  | some j => rw [e] at h; exact r.get h
theorem atI_map {α β : Type} {f : α → β} {xs : List α} {i : Int} : atI (xs.map f) i = (atI xs i).map f := by
  unfold atI
  rw [List.length_map]
  cases ixN xs.length i with
  | none => rfl
  | some j => simp
theorem ix_read {K : PySem.W.Frag} {S H : Hp} {x y : V} {a b c : D} {Q : VK} (sub : Same S H) (ha : At K S x a) (hb : At K S y b) (e : ixD a b = some c) (k : ∀ v, At K S v c → Q v H) : rIx K x y H Q := by
  cases hb with
  | int i =>
    cases ha with
    | @lst p vs ds h z r =>
      obtain ⟨v, ev, hv⟩ := atI_at r (show atI ds i = some c from e)
      exact .inl ⟨p, vs, i, v, rfl, rfl, .of (sub _ _ h), ev, k v hv⟩
    | @tup p vs ds h z r =>
      obtain ⟨v, ev, hv⟩ := atI_at r (show atI ds i = some c from e)
      exact .inr (.inl ⟨p, vs, i, v, rfl, rfl, sqT_mono sub h, ev, k v hv⟩)
    | @scr p ns h z =>
      have e : (atI ns i).map D.int = some c := e
      cases en : atI ns i with
      | none => rw [en] at e; cases e
      | some n =>
        rw [en] at e
        cases e
        exact .inl ⟨p, _, i, .int n, rfl, rfl, sub.seq h, by rw [atI_map, en]; rfl, k _ (.int n)⟩
    | str z =>
      have e : (if z.length ≤ sizeLine then (atI z.cps.toList i).map fun c => D.str ⟨#[c]⟩ else none) = some c := e
      split at e
      · rename_i hz
        cases en : atI z.cps.toList i with
        | none => rw [en] at e; cases e
        | some n =>
          rw [en] at e
          cases e
          exact .inr (.inr ⟨z, i, n, rfl, rfl, hz, en, k _ (.str _)⟩)
      · cases e
    | _ => cases e
  | _ => cases a <;> cases e
theorem ve_ix (ha : VE X W os e1 f1 os1 false) (hb : VE X W os1 e2 f2 os2 false) (hs : PlainIx e2 := by exact fun _ _ => rfl) : VE X W os (.Subscript e1 e2 pos) (eOp2 ixD f1 f2) os2 false := by
  obtain ⟨ta, pa, ka⟩ := ha
  obtain ⟨tb, pb, kb⟩ := hb
  refine ⟨_, pe_ix ix_seq pa pb hs, fun S σ H ρ Q rel P => ?_⟩
  refine ka S σ H ρ _ rel (Post.seq P (fun z => z) (fun c fs p => p) fun d ρ1 v S1 H1 st1 rel1 q1 P1 => ?_)
  have P1 := P1.step RV.ok st1
  refine kb S1 σ H1 ρ1 _ rel1 (Post.seq P1 (fun z => z) (fun c fs p => p) fun d2 ρ2 v2 S2 H2 st2 rel2 q2 P2 => ?_)
  obtain ⟨c, hc, k⟩ := post_of (P2.step RV.ok st2) rel2
  exact ix_read rel2.sub (At.mono st2.ext.s q1) q2 hc fun v hv => k v S2 H2 (Ext.refl rel2.sub) hv
/-- x[e], x an owning name -/
def eIxO (i : Nat) (f : Rho → Out (D × Rho)) : Rho → Out (D × Rho) := fun ρ => (f ρ).bind fun p => match p.2.getD i none with
  | some d => (Out.of (ixD d p.1)).bind fun c => .ok (c, p.2)
  | none => .stuck
theorem getD_some {ρ : Rho} {i : Nat} {d : D} (h : ρ.getD i none = some d) : ρ[i]? = some (some d) := by
  cases q : ρ[i]? with
  | none => simp [List.getD, q] at h
  | some y => simp [List.getD, q] at h; rw [h]
theorem ve_ixO (i : Nat) {x : Str} (hb : VE X W os e2 f2 os1 false) (ho : os.getD i false = true := by rfl) (ho1 : os1.getD i false = true := by rfl) (hN : X.N[i]? = some x := by rfl) (hv : Vis X.env.scope x := by first | exact Or.inl rfl | exact Or.inr (Or.inl rfl) | exact Or.inr (Or.inr rfl))
    (hs : PlainIx e2 := by exact fun _ _ => rfl) (hd : (x == ("__debug__" : Str)) = false := by decide) (hcd : (x == ("__classdict__" : Str)) = false := by decide) : VE X W os (.Subscript (.Name x p) e2 pos) (fun ρ => match ρ.getD i none with | some _ => eIxO i f2 ρ | none => .stuck) os1 false := by
  obtain ⟨tb, pb, kb⟩ := hb
  refine ⟨_, pe_ix ix_seq (pe_var hN hv hd hcd) pb hs, fun S σ H ρ Q rel P => ?_⟩
  cases h0 : ρ.getD i none with
  | none => dsimp only at P; rw [h0] at P; exact P.elim
  | some d0 =>
    dsimp only at P; rw [h0] at P
    obtain ⟨v, ev, _⟩ := rel.own (getD_some h0) ho
    refine ⟨v, ev, ?_⟩
    refine kb S σ H ρ _ rel (Post.seq P (fun z => z) (fun c fs p => p) fun d2 ρ2 v2 S2 H2 st2 rel2 q2 P2 => ?_)
    have P2 := P2.step RV.ok st2
    dsimp only at P2
    cases h1 : ρ2.getD i none with
    | none => rw [h1] at P2; exact P2.elim
    | some d1 =>
      rw [h1] at P2
      obtain ⟨v', ev', hown⟩ := rel2.own (getD_some h1) ho1
      rw [ev] at ev'
      cases ev'
      obtain ⟨c, hc, k⟩ := post_of P2 rel2
      obtain ⟨a, ea, na, q⟩ := hown
      subst ea
      have q2 : At X.K S2 v2 d2 := q2
      obtain ⟨o, eh, bd⟩ := q
      cases bd with
      | @lst vs ds z rl =>
        cases q2 with
        | int j =>
          obtain ⟨w, ew, hw⟩ := atI_at rl (show atI ds j = some c from hc)
          exact .inl ⟨a, vs, j, w, rfl, rfl, .of eh, ew, k w S2 H2 (Ext.refl rel2.sub) hw⟩
        | _ => cases hc
      | _ => cases q2 <;> cases hc

/-! ### slices -/
def oNone : Rho → Out (Option Int × Rho) := fun ρ => .ok (none, ρ)
def oSome (f : Rho → Out (D × Rho)) : Rho → Out (Option Int × Rho) := fun ρ => (f ρ).bind fun p => match p.1 with
  | .int i => .ok (some i, p.2)
  | _ => .stuck
def cutD (xs : List D) (lo hi : Option Int) : List D := (xs.drop (HT.sIx xs.length 0 lo)).take (HT.sIx xs.length xs.length hi - HT.sIx xs.length 0 lo)
theorem AtL.cut {K : PySem.W.Frag} {S : Hp} {vs : List V} {ds : List D} (r : AtL K S vs ds) (lo hi : Option Int) : AtL K S (cutV vs lo hi) (cutD ds lo hi) := by
  unfold cutV cutD
  rw [r.length]
  exact (r.drop _).take _
def sliceD : D → Option Int → Option Int → Option D
  | .lst xs, lo, hi => some (.lst (cutD xs lo hi))
  | .tup xs, lo, hi => some (.tup (cutD xs lo hi))
  | .scr ns, lo, hi => some (.lst (cutD (ns.map .int) lo hi))
  | _, _, _ => none
def eSlice (f : Rho → Out (D × Rho)) (fl fh : Rho → Out (Option Int × Rho)) : Rho → Out (D × Rho) := fun ρ =>
  (f ρ).bind fun p => (fl p.2).bind fun l => (fh l.2).bind fun h => (Out.of (sliceD p.1 l.1 h.1)).bind fun c => .ok (c, h.2)
/-! ### built-ins -/
def CallD (X : Cx) (f : Value) (h : List D → Option D) : Prop :=
  ∃ r, CallR X f r ∧ ∀ S H vs ds c Q, Same S H → AtL X.K S vs ds → h ds = some c → (∀ v S' H', Ext (fun _ => False) S H S' H' → At X.K S' v c → Q v H') → r vs H Q
theorem CallD.or {fv : Value} {h1 h2 : List D → Option D} (a : CallD X fv h1) (b : CallD X fv h2) : CallD X fv (fun ds => match h1 ds with | some c => some c | none => h2 ds) := by
  obtain ⟨r1, o1, k1⟩ := a
  obtain ⟨r2, o2, k2⟩ := b
  refine ⟨fun vs H Q => r1 vs H Q ∨ r2 vs H Q, fun pins s σ H xs us Q I r q => q.elim (o1 pins s σ H xs us Q I r) (o2 pins s σ H xs us Q I r), fun S H vs ds c Q sub ha e k => ?_⟩
  dsimp only at e
  cases e1 : h1 ds with
  | some c1 => rw [e1] at e; cases e; exact .inl (k1 S H vs ds _ Q sub ha e1 k)
  | none => rw [e1] at e; exact .inr (k2 S H vs ds c Q sub ha e k)
theorem ve_callB {x : Str} {id : String} {h : List D → Option D} (hc : CallD X (.builtin id) h) (ha : VA X W os (e :: es) g os1) (hm : X.mg x = none) (hv : bootBuiltins x = some (.builtin id)) (hg : Gl X x := by rfl) (hn : x ≠ "__name__" := by decide) (hdb : (x == ("__debug__" : Str)) = false := by decide)
    (he : starEach (e :: es) X.env = (false, eval e X.env) :: starEach es X.env := by rfl) (hpl : (backTo pos (starEach es X.env)).any (·.1) = false := by rfl) : VE X W os (.Call (.Name x p) (e :: es) [] pos) (eArg h g) os1 false := by
  obtain ⟨ta, pa, ka⟩ := ha
  obtain ⟨r, pc, kc⟩ := hc
  refine ⟨_, pe_callB pc hg hm hv pa hn hdb he hpl, fun S σ H ρ Q rel P => ?_⟩
  refine ka S σ H ρ _ rel (Post.seq P (fun z => z) (fun c fs p => p) fun ds ρ1 vs S1 H1 st1 rel1 q1 P1 => ?_)
  obtain ⟨c, hcc, k⟩ := post_of (P1.step RV.ok st1) rel1
  exact kc S1 H1 vs ds c _ rel1.sub q1.1 hcc k
theorem ve_callTy {x : Str} {T : String} {h : List D → Option D} (hc : CallD X (.type T) h) (ha : VA X W os (e :: es) g os1) (hm : X.mg x = none) (hv : bootBuiltins x = some (.type T)) (hg : Gl X x := by rfl) (hn : x ≠ "__name__" := by decide) (hdb : (x == ("__debug__" : Str)) = false := by decide)
    (he : starEach (e :: es) X.env = (false, eval e X.env) :: starEach es X.env := by rfl) (hpl : (backTo pos (starEach es X.env)).any (·.1) = false := by rfl) : VE X W os (.Call (.Name x p) (e :: es) [] pos) (eArg h g) os1 false := by
  obtain ⟨ta, pa, ka⟩ := ha
  obtain ⟨r, pc, kc⟩ := hc
  refine ⟨_, pe_callTy pc hg hm hv pa hn hdb he hpl, fun S σ H ρ Q rel P => ?_⟩
  refine ka S σ H ρ _ rel (Post.seq P (fun z => z) (fun c fs p => p) fun ds ρ1 vs S1 H1 st1 rel1 q1 P1 => ?_)
  obtain ⟨c, hcc, k⟩ := post_of (P1.step RV.ok st1) rel1
  exact kc S1 H1 vs ds c _ rel1.sub q1.1 hcc k
/-- a built-in class as a value -/
theorem ve_ty {x : Str} {T : Tc} (hm : X.mg x = none) (hv : bootBuiltins x = some (.type T.nm)) (hg : Gl X x := by rfl) (hn : x ≠ "__name__" := by decide) (hdb : (x == ("__debug__" : Str)) = false := by decide) : VE X W os (.Name x p) (eCon (.ty T)) os false :=
  ⟨_, pe_bltn (v := .ty T.nm) hg hm hv rfl hn hdb, fun S σ H ρ Q rel P => P.fin (os' := os) rel (.ty T rfl)⟩

def lenD : List D → Option D
  | [.lst ds] => some (.int ds.length)
  | [.tup ds] => some (.int ds.length)
  | [.scr ns] => some (.int ns.length)
  | [.str x] => if x.length ≤ sizeLine then some (.int x.length) else none
  | _ => none
theorem c_len : CallD X (.builtin "len") lenD := ⟨_, call_len, fun S H vs ds c Q sub ha e k => by
  match ds, vs, ha, e with
  | [d], [v], .cons h .nil, e =>
    cases h with
    | @lst a ws es h z r =>
      cases e
      exact ⟨_, _, rfl, .inl ⟨ws, .of (sub _ _ h), rfl⟩, k _ S H (Ext.refl sub) (by rw [r.length]; exact .int _)⟩
    | @tup a ws es h z r =>
      cases e
      exact ⟨_, _, rfl, .inr ⟨ws, sqT_mono sub h, rfl⟩, k _ S H (Ext.refl sub) (by rw [r.length]; exact .int _)⟩
    | @scr a ns h z =>
      cases e
      exact ⟨_, _, rfl, .inl ⟨_, sub.seq h, rfl⟩, k _ S H (Ext.refl sub) (by rw [List.length_map]; exact .int _)⟩
    | str x =>
      have e : (if x.length ≤ sizeLine then some (D.int x.length) else none) = some c := e
      split at e
      · rename_i hz
        cases e
        exact ⟨_, x.length, rfl, ⟨hz, rfl⟩, k _ S H (Ext.refl sub) (.int _)⟩
      · cases e
    | _ => cases e
  | [], _, _, e => cases e
  | _ :: _ :: _, _, _, e => exact absurd e (by simp [lenD])⟩
/-- a datum's class; NoneType is none -/
def tyOf : D → Option Tc
  | .non => none
  | .bl _ => some .bool
  | .int _ => some .int
  | .str _ => some .str
  | .tup _ => some .tuple
  | .lst _ => some .list
  | .scr _ => some .list
  | .dct _ => some .dict
  | .ty _ => none
  | .ins _ _ => none
  | .exc _ _ => none
/-- what isinstance looks at -/
def isiOk : D → Bool
  | .ty _ => false
  | .dct _ => false
  | .ins _ _ => false
  | .exc _ _ => false
  | _ => true
def Tc.eq : Tc → Tc → Bool
  | .int, .int => true
  | .bool, .bool => true
  | .tuple, .tuple => true
  | .list, .list => true
  | .str, .str => true
  | .dict, .dict => true
  | .bool, .int => true
  | _, _ => false
def isTy : Option Tc → Tc → Bool
  | none, _ => false
  | some a, b => Tc.eq a b
def isiD : List D → Option D
  | [d, .ty n] => if isiOk d = true then some (.bl (isTy (tyOf d) n)) else none
  | _ => none
def nmO : Option Tc → String
  | none => "NoneType"
  | some t => t.nm
theorem kit_at (a : Option Tc) (b : Tc) : kitB (nmO a) b.nm = some (isTy a b) := by
  cases a with
  | none => cases b <;> decide +kernel
  | some a => cases a <;> cases b <;> decide +kernel
theorem tyx_of {K : PySem.W.Frag} {S H : Hp} {v : V} {d : D} (sub : Same S H) (h : At K S v d) (hd : isiOk d = true) : TyX K H v (.type (nmO (tyOf d))) := by
  cases h with
  | non => exact .base .non
  | bl b => exact .base (.bl b)
  | int i => exact .base (.int i)
  | str x => exact .base (.str x)
  | tup h z r =>
    rcases h with (h | ⟨o, h⟩) | ⟨o, its, n, hk, hc, _⟩
    · exact .base (.tup (sub _ _ h))
    · exact .fTuple (sub _ _ h)
    · exact .kTuple hk hc
  | lst h z r => exact .base (.lst (sub _ _ h))
  | dct h k z r => cases hd
  | ins _ _ _ _ _ => cases hd
  | exc0 _ _ => cases hd
  | exc1 _ _ _ _ => cases hd
  | scr h z =>
    rcases h with (h | ⟨o, h⟩) | ⟨o, its, n, hk, hc, _⟩
    · exact .base (.lst (sub _ _ h))
    · exact .base (.frz (sub _ _ h))
    · exact .kList hk hc
  | ty n _ => cases hd
theorem isiD_some {ds : List D} {c : D} (h : isiD ds = some c) : ∃ d n, ds = [d, .ty n] ∧ isiOk d = true ∧ c = .bl (isTy (tyOf d) n) := by
  unfold isiD at h
  split at h
  · rename_i d n
    split at h
    · rename_i hd
      cases h
      exact ⟨d, n, rfl, hd, rfl⟩
    · cases h
  · cases h
theorem c_isi : CallD X (.builtin "isinstance") isiD := ⟨_, call_isi, fun S H vs ds c Q sub ha e k => by
  obtain ⟨d, n, rfl, hd, rfl⟩ := isiD_some e
  match vs, ha with
  | [v, _], .cons h (.cons (.ty _ hn) .nil) =>
    subst hn
    exact ⟨v, .ty n.nm, _, _, isTy (tyOf d) n, rfl, .ty n.nm, tyx_of sub h hd, kit_ty (kit_at _ _), k _ S H (Ext.refl sub) (.bl _)⟩⟩
def absD : List D → Option D
  | [.int i] => some (.int (if i < 0 then -i else i))
  | _ => none
theorem c_abs : CallD X (.builtin "abs") absD := ⟨_, call_abs, fun S H vs ds c Q sub ha e k => by
  match ds, vs, ha, e with
  | [.int i], [_], .cons (.int _) .nil, e => cases e; exact ⟨i, rfl, k _ S H (Ext.refl sub) (.int _)⟩
  | [], _, _, e => cases e
  | _ :: _ :: _, _, _, e => exact absurd e (by simp [absD])
  | [.non], _, _, e => cases e
  | [.bl _], _, _, e => cases e
  | [.str _], _, _, e => cases e
  | [.tup _], _, _, e => cases e
  | [.lst _], _, _, e => cases e
  | [.dct _], _, _, e => cases e
  | [.scr _], _, _, e => cases e
  | [.ty _], _, _, e => cases e
  | [.ins _ _], _, _, e => cases e
  | [.exc _ _], _, _, e => cases e⟩
def intD : List D → Option D
  | [.int i] => some (.int i)
  | [.bl b] => some (.int (if b then 1 else 0))
  | _ => none
theorem c_int : CallD X (.type "int") intD := ⟨_, call_int1, fun S H vs ds c Q sub ha e k => by
  match ds, vs, ha, e with
  | [.int i], [_], .cons (.int _) .nil, e => cases e; exact .inl ⟨i, rfl, k _ S H (Ext.refl sub) (.int _)⟩
  | [.bl i], [_], .cons (.bl _) .nil, e => cases e; exact .inr ⟨i, rfl, k _ S H (Ext.refl sub) (.int _)⟩
  | [], _, _, e => cases e
  | _ :: _ :: _, _, _, e => exact absurd e (by simp [intD])
  | [.non], _, _, e => cases e
  | [.str _], _, _, e => cases e
  | [.tup _], _, _, e => cases e
  | [.lst _], _, _, e => cases e
  | [.dct _], _, _, e => cases e
  | [.scr _], _, _, e => cases e
  | [.ty _], _, _, e => cases e
  | [.ins _ _], _, _, e => cases e
  | [.exc _ _], _, _, e => cases e⟩
/-- a list of whole numbers -/
def intsOf : List D → Option (List Int)
  | [] => some []
  | .int i :: ds => (intsOf ds).map (i :: ·)
  | _ => none
/-- tuple(..) -/
def tupleD : List D → Option D
  | [.lst ds] => some (.tup ds)
  | [.tup ds] => some (.tup ds)
  | _ => none
theorem c_tuple : CallD X (.type "tuple") tupleD := ⟨_, call_tuple_of, fun S H vs ds c Q sub ha e k => by
  unfold tupleD at e
  split at e
  · match vs, ha with
    | [_], .cons (.lst (a := a) (vs := ws) hs z r) .nil =>
      cases e
      refine ⟨a, ws, rfl, .inl ⟨.of (sub _ _ hs), fun l nl => ?_⟩⟩
      have xx := Ext.new (O := fun _ => False) (o := .tup ws) sub nl
      exact k _ _ _ xx (.tup (.inl (.inl upd_same)) z (r.mono xx.s))
  · match vs, ha with
    | [_], .cons (.tup (a := a) (vs := ws) hs z r) .nil =>
      cases e
      exact ⟨a, ws, rfl, .inr ⟨sqT_mono sub hs, k _ S H (Ext.refl sub) (.tup hs z r)⟩⟩
  · cases e⟩
end
end SW

set_option maxRecDepth 100000
/-! SW9: list(..), stores into an owned list, methods that turn an owned list. -/
namespace SW
open PySem PySem.Spec PyProof.Rows L2
section
variable {X : Cx} {W : WX} {L : Lc} {os os1 os2 os3 osN : Os} {e e1 e2 : Expr} {f f1 f2 : Rho → Out (D × Rho)} {pos p apos : Pos} {es : List Expr} {g : Rho → Out (List D × Rho)}
def listD : List D → Option D
  | [.lst ds] => some (.lst ds)
  | [.tup ds] => some (.lst ds)
  | [.scr ns] => some (.lst (ns.map .int))
  | _ => none
/-- list(e): a new list -/
theorem ve_list {x : Str} (ha : VA X W os [e] g os1) (hx : x = "list") (hm : X.mg x = none) (hg : Gl X x := by rfl) (hle : Le os1 os := by rfl)
    (he : starEach [e] X.env = (false, eval e X.env) :: starEach [] X.env := by rfl) (hpl : (backTo pos (starEach [] X.env)).any (·.1) = false := by rfl) : VE X W os (.Call (.Name x p) [e] [] pos) (eArg listD g) os1 true := by
  obtain ⟨ta, pa, ka⟩ := ha
  subst hx
  refine ⟨_, pe_callTy call_list_of hg hm (by decide +kernel) pa (by decide) (by decide) he hpl, fun S σ H ρ Q rel P => ?_⟩
  refine ka S σ H ρ _ rel (Post.seq P (fun z => z) (fun c fs p => p) fun ds ρ1 vs S1 H1 st1 rel1 q1 P1 => ?_)
  have P1 := P1.step RV.ok st1
  dsimp only at P1
  have fin : ∀ {xs : List V} {ys : List D} (l : Addr), Post X W S1 H1 os1 σ os1 (RV X.K true) Q (.ok (.lst ys, ρ1)) → AtL X.K S1 xs ys → ys.length ≤ sizeLine → H1 l = none → Q (.ref l) (upd H1 l (.lst xs)) := fun {xs ys} l P r z nl => by
    have xx := Ext.newO (O := fun _ => False) (o := .lst xs) rel1.sub nl
    exact P (.ref l) S1 (upd H1 l (.lst xs)) (Stp.of_ext xx) (rel1.ext0 xx) ⟨.mkL (rel1.sub.free nl) upd_same (z) (r), fun a e => by cases e; exact nl⟩
  obtain ⟨q1, _⟩ := q1
  cases hds : listD ds with
  | none => rw [hds] at P1; exact P1.elim
  | some c =>
    rw [hds] at P1
    unfold listD at hds
    split at hds
    · cases hds
      match vs, q1 with
      | [_], .cons (.lst (a := a) (vs := ws) hs z r) .nil => exact ⟨a, ws, rfl, .inl (.of (rel1.sub _ _ hs)), fun l nl => fin l P1 r z nl⟩
    · cases hds
      match vs, q1 with
      | [_], .cons (.tup (a := a) (vs := ws) hs z r) .nil => exact ⟨a, ws, rfl, .inr (sqT_mono rel1.sub hs), fun l nl => fin l P1 r z nl⟩
    · cases hds
      match vs, q1 with
      | [_], .cons (.scr (a := a) (ns := ns) hs z) .nil => exact ⟨a, _, rfl, .inl (rel1.sub.seq hs), fun l nl => fin l P1 (AtL.ints ns) (by rw [List.length_map]; exact z) nl⟩
    · cases hds
/-- x[lo:hi] of a list: a new list that is owned -/
def sliceL : D → Option Int → Option Int → Option D
  | .lst xs, lo, hi => some (.lst (cutD xs lo hi))
  | .scr ns, lo, hi => some (.lst (cutD (ns.map .int) lo hi))
  | _, _, _ => none
def eSliceL (f : Rho → Out (D × Rho)) (fl fh : Rho → Out (Option Int × Rho)) : Rho → Out (D × Rho) := fun ρ =>
  (f ρ).bind fun p => (fl p.2).bind fun l => (fh l.2).bind fun h => (Out.of (sliceL p.1 l.1 h.1)).bind fun c => .ok (c, h.2)
/-! ### an owned list is turned -/
def sSetIx (i : Nat) (f fi : Rho → Out (D × Rho)) : Rho → Out Fl := fun ρ => (f ρ).bind fun p => match p.2.getD i none with
  | none => .stuck
  | some _ => (fi p.2).bind fun q => match q.2.getD i none, q.1 with
    | some (.lst ds), .int k => (match ixN ds.length k with
      | some j => .ok (.nx (q.2.set i (some (.lst (ds.set j p.1)))))
      | none => .stuck)
    | _, _ => .stuck
theorem turnL {S H : Hp} {σ : Sg} {ρ : Rho} {i : Nat} {a : Addr} {vs : List V} {ds : List D} (rel : Rel X.K S H os σ ρ) (ho : os.getD i false = true) (ev : σ[i]? = some (some (.ref a))) (na : S a = none) (z : ds.length ≤ sizeLine) (r : AtL X.K S vs ds) :
    Rel X.K S (upd H a (.lst vs)) os σ (ρ.set i (some (.lst ds))) ∧ Stp os σ S H os σ S (upd H a (.lst vs)) :=
  ⟨rel.turn ho ev (.mkL na upd_same z r), Stp.turn rel ho ev⟩
theorem vs_setIx (i : Nat) {x : Str} {px ps : Pos} {ie : Expr} {fi : Rho → Out (D × Rho)} (hv : VE X W os e f os1 false) (hi : VE X W os1 ie fi os2 false) (ho1 : os1.getD i false = true := by rfl) (ho2 : os2.getD i false = true := by rfl) (hN : X.N[i]? = some x := by rfl)
    (hvis : Vis X.env.scope x := by first | exact Or.inl rfl | exact Or.inr (Or.inl rfl) | exact Or.inr (Or.inr rfl)) (hd : (x == ("__debug__" : Str)) = false := by decide) (hcd : (x == ("__classdict__" : Str)) = false := by decide)
    (ha : ∀ v, assign (.Subscript (.Name x px) ie ps) X.env v = (do
      let ov ← holding [v] (eval (.Name x px) X.env)
      let iv ← holding [v, ov] (eval ie X.env)
      standAt ps
      holding [v, ov, iv] (setItem ov iv v)
      release [v, ov, iv] []) := by intro _; rfl) (hs : swapsWithSole [.Subscript (.Name x px) ie ps] e pos.line X.env = pure false := by rfl) (hw : swappedStores [.Subscript (.Name x px) ie ps] e X.env = pure none := by rfl)
    (h1 : (assignEach [.Subscript (.Name x px) ie ps] X.env).map (·.2) = [assign (.Subscript (.Name x px) ie ps) X.env] := by rfl) :
    VS X W L os (.Assign [.Subscript (.Name x px) ie ps] e pos) (sSetIx i f fi) os2 := by
  obtain ⟨t, pt, kt⟩ := hv
  obtain ⟨ti, pi, ki⟩ := hi
  refine ⟨_, ps_asg pt (pg_sub (pe_var hN hvis hd hcd) pi set_list ha) hs hw h1, fun S σ H ρ Ds rel P => ?_⟩
  refine kt S σ H ρ _ rel (PostS.seqE P fun d ρ1 v S1 H1 s1 r1 q1 P1 => ?_)
  have q1 : At X.K S1 v d := q1
  dsimp only at P1
  cases hx : ρ1.getD i none with
  | none => rw [hx] at P1; exact P1.elim
  | some d1 =>
    rw [hx] at P1
    obtain ⟨u, eu, _⟩ := r1.own (getD_some hx) ho1
    refine ⟨u, eu, ?_⟩
    refine ki S1 σ H1 ρ1 _ r1 (PostS.seqE P1 fun d2 ρ2 v2 S2 H2 s2 r2 q2 P2 => ?_)
    have q2 : At X.K S2 v2 d2 := q2
    dsimp only at P2
    cases hx2 : ρ2.getD i none with
    | none => rw [hx2] at P2; exact P2.elim
    | some d3 =>
      rw [hx2] at P2
      obtain ⟨u', eu', hown⟩ := r2.own (getD_some hx2) ho2
      rw [eu] at eu'
      cases eu'
      obtain ⟨a, ea, na, q⟩ := hown
      subst ea
      obtain ⟨o, eh, bd⟩ := q
      cases bd with
      | @lst vs ds z rl =>
        cases q2 with
        | int k =>
          have P2 : PostS X W L S2 H2 os2 σ os2 Ds (match ixN ds.length k with
            | some j => .ok (.nx (ρ2.set i (some (.lst (ds.set j d)))))
            | none => .stuck) := P2
          cases hj : ixN ds.length k with
          | none => rw [hj] at P2; exact P2.elim
          | some j =>
            rw [hj] at P2
            obtain ⟨r3, st3⟩ := turnL r2 ho2 eu na (by rw [List.length_set]; exact z) (rl.set j (q1.mono s2.ext.s))
            exact ⟨a, vs, k, j, rfl, rfl, eh, by rw [rl.length]; exact hj, P2 σ S2 _ st3 FixOn.refl r3⟩
        | _ => exact P2.elim
      | _ => cases q2 <;> exact P2.elim

/-! ### methods -/
def eOwnM (u : List D → List D → Option (D × List D)) (i : Nat) (g : Rho → Out (List D × Rho)) : Rho → Out (D × Rho) := fun ρ => match ρ.getD i none with
  | some (.lst _) => (g ρ).bind fun p => (match p.2.getD i none with
    | some (.lst ds) => (Out.of (u ds p.1)).bind fun c => .ok (c.1, p.2.set i (some (.lst c.2)))
    | _ => .stuck)
  | _ => .stuck
end
end SW

set_option maxRecDepth 100000
/-! SW10: break, continue, x op= e, freezing ahead, bodies that always return, a module's constants, the end. -/
namespace SW
open PySem PySem.Spec PyProof.Rows L2
section
variable {X : Cx} {W : WX} {L : Lc} {os os1 os2 os3 osN : Os} {e e1 e2 : Expr} {f f1 f2 : Rho → Out (D × Rho)} {pos p apos : Pos} {es : List Expr} {g g2 : Rho → Out Fl} {st : Stmt} {sts : List Stmt}
/-- x += e -/
def sAug (i : Nat) (h : D → D → Option D) (f : Rho → Out (D × Rho)) : Rho → Out Fl := fun ρ => match ρ.getD i none with
  | none => .stuck
  | some d => (f ρ).bind fun q => (Out.of (h d q.1)).bind fun c => .ok (.nx (q.2.set i (some c)))
/-- a module's constant -/
def Konst (K : PySem.W.Frag) (mg : Str → Option Value) (x : Str) (d : D) : Prop := ∃ v u, mg x = some u ∧ RelV v u ∧ ∀ S, At K S v d
theorem ve_konst {x : Str} {d : D} (h : Konst X.K X.mg x d) (hg : Gl X x := by rfl) (hd : (x == ("__debug__" : Str)) = false := by decide) : VE X W os (.Name x p) (eCon d) os false := by
  obtain ⟨v, u, hm, hr, hat⟩ := h
  exact ve_glob hm hr hat hg hd
theorem konst_int {K : PySem.W.Frag} {mg : Str → Option Value} {x : Str} {i : Int} {t : Tok} (h : mg x = some (.int i t)) : Konst K mg x (.int i) := ⟨.int i, _, h, ⟨t, rfl⟩, fun _ => .int i⟩
/-! ### a body that never runs off its end -/
def NoNx (g : Rho → Out Fl) : Prop := ∀ ρ ρ', g ρ ≠ .ok (.nx ρ')
theorem nn_seq (h : NoNx g2) : NoNx (sSeq g g2) := fun ρ ρ' e => by
  unfold sSeq at e
  cases hg : g ρ with
  | ok z =>
    rw [hg] at e
    cases z with
    | nx ρ1 => exact h ρ1 ρ' e
    | _ => cases e
  | exc c fs => rw [hg] at e; cases e
  | stuck => rw [hg] at e; cases e
theorem nn_ret : NoNx (sRet f) := fun ρ ρ' e => by
  unfold sRet at e
  cases hg : f ρ <;> rw [hg] at e <;> cases e
/-- f(e, ..): the list or dict that f turns is a new one that nobody else holds -/
def eCallT (m : List D → Out (D × D)) (f : Rho → Out (D × Rho)) (g : Rho → Out (List D × Rho)) : Rho → Out (D × Rho) := fun ρ => (f ρ).bind fun p => (g p.2).bind fun q => (m (p.1 :: q.1)).bind fun c => .ok (c.1, q.2)
end
/-- how a def's arguments bind: no defaults -/
abbrev bnd := @Fun.binds
/-- the end: a law that is one for-all of its mirror -/
def specL (K : PySem.W.Frag) (m : List D → Out (D × D)) : Sp := fun vs H Q _ => ∃ (a : Addr) (ns : List Int), vs = [.ref a] ∧ SqL K H a (ns.map V.int) ∧ ns.length ≤ 63 ∧ (∃ o, m [.scr ns] = .ok (.bl true, o)) ∧ ∀ H', Q (.bl true) H'
theorem specL_imp {K : PySem.W.Frag} {mg : Str → Option Value} {m : List D → Out (D × D)} : ∀ vs H Q E, specL K m vs H Q E → spec K mg 1 none false m vs H Q E := by
  rintro vs H Q E ⟨a, ns, rfl, hs, hl, ⟨o, e⟩, hq⟩
  refine ⟨rfl, H, [.scr ns], rel_args (.cons (.scr hs (Nat.le_trans hl (by decide))) .nil) (Same.refl _), ?_⟩
  rw [e]
  intro v S' H' x q _
  have q : At K S' v (.bl true) := q
  cases q
  exact hq H'
theorem law_specL {K : PySem.W.Frag} {m : List D → Out (D × D)} (hm : ∀ ns : List Int, ns.length ≤ 63 → ∃ o, m [.scr ns] = .ok (.bl true, o)) {H : Hp} {a : Addr} {ns : List Int} (hl : ns.length ≤ 63) (hs : SqL K H a (ns.map V.int)) :
    specL K m [.ref a] H (fun v _ => v = .bl true) fun _ _ _ => False := ⟨a, ns, rfl, hs, hl, hm ns hl, fun _ => rfl⟩
end SW
namespace SW
open PySem PySem.Spec PyProof.Rows L2
theorem bt_len : bootBuiltins "len" = some (.builtin "len") := by decide +kernel
theorem bt_isinstance : bootBuiltins "isinstance" = some (.builtin "isinstance") := by decide +kernel
theorem bt_abs : bootBuiltins "abs" = some (.builtin "abs") := by decide +kernel
theorem bt_int : bootBuiltins "int" = some (.type "int") := by decide +kernel
theorem bt_bool : bootBuiltins "bool" = some (.type "bool") := by decide +kernel
theorem bt_tuple : bootBuiltins "tuple" = some (.type "tuple") := by decide +kernel
theorem bt_str : bootBuiltins "str" = some (.type "str") := by decide +kernel
theorem hu65 {A : Around} {k : Nat} (hr : Room k A) : A.units + 65 < cLine := by have := hr.un; omega
/-- comparisons: numbers first, then any data that are alike -/
def ltA : D → D → Option D := fun a b => match ltI a b with | some c => some c | none => ltD a b
def leA : D → D → Option D := fun a b => match leI a b with | some c => some c | none => leD a b
def gtA : D → D → Option D := fun a b => match gtI a b with | some c => some c | none => gtD a b
def geA : D → D → Option D := fun a b => match geI a b with | some c => some c | none => geD a b
theorem o_ltA {X : Cx} (hu : X.A.units + 64 < cLine) : Op2 X (compareOp .Lt) ltA := o_ltI.or (o_lt hu)
theorem o_leA {X : Cx} (hu : X.A.units + 64 < cLine) : Op2 X (compareOp .LtE) leA := o_leI.or (o_le hu)
theorem o_gtA {X : Cx} (hu : X.A.units + 64 < cLine) : Op2 X (compareOp .Gt) gtA := o_gtI.or (o_gt hu)
theorem o_geA {X : Cx} (hu : X.A.units + 64 < cLine) : Op2 X (compareOp .GtE) geA := o_geI.or (o_ge hu)
/-- the def's own start: only the turned parameter is owned -/
theorem os_ok {os : Os} {pm : Option Nat} (h : (List.range (max os.length (osP pm).length)).all (fun i => os.getD i false == (osP pm).getD i false) = true) : ∀ i, os.getD i false = (osP pm).getD i false := fun i => by
  by_cases hi : i < max os.length (osP pm).length
  · exact eq_of_beq (List.all_eq_true.mp h i (List.mem_range.mpr hi))
  · rw [List.getD, List.getD, List.getElem?_eq_none (by omega), List.getElem?_eq_none (by omega)]
theorem konst_tup {K : PySem.W.Frag} {mg : Str → Option Value} {x : Str} {p : Addr} {o : Obj} {its : Array Value} {n : Nat} {vs : List V} {ds : List D} (h : mg x = some (.ref p)) (hk : K.lookup p = some o) (hc : o.cls = .type "tuple") (hd : o.data = .seq its n) (hz : its.size ≤ sizeLine ∧ ds.length ≤ sizeLine) (hv : Vals vs its.toList) (hat : ∀ {S}, AtL K S vs ds) : Konst K mg x (.tup ds) :=
  ⟨.ref p, _, h, rfl, fun S => .tup (.inr ⟨o, its, n, hk, hc, hd, hz.1, hv⟩) hz.2 hat⟩
theorem cx_false {P : Program} {w : World} {H : Hp} {s s' : Shared} {e : Value} (h : L2.CX P w [] H s (fun _ _ _ => False) e s') : False := by
  obtain ⟨_, _, _, _, _, _, _, _, _, _, _, _, z⟩ := h
  exact z
def aHoleQ (i : Nat) (g : Rho → Out (List D × Rho)) : Rho → Out (List D × Rho) := fun ρ => match ρ.getD i none with | some _ => aHole g ρ | none => .stuck
/-- fuels -/
def fuelInt (i : Nat) : Rho → Nat := fun ρ => match ρ.getD i none with
  | some (.int n) => n.natAbs + 1
  | _ => 0
end SW

set_option maxRecDepth 100000
/-! SW11: how mirrors are reckoned: equations for simp. -/
namespace SW
open PySem PySem.Spec PyProof.Rows L2
section
variable {α β : Type} {ρ ρ1 ρ2 : Rho} {i j : Int} {d e : D} {k : α → Out β} {a : α}
theorem bind_ok : (Out.ok a).bind k = k a := rfl
theorem bind_exc {c fs} : (Out.exc c fs : Out α).bind k = .exc c fs := rfl
theorem bind_stuck : (Out.stuck : Out α).bind k = .stuck := rfl
theorem of_some : Out.of (some a) = .ok a := rfl
theorem eCon_ok : eCon d ρ = .ok (d, ρ) := rfl
theorem aNil_ok : aNil ρ = .ok ([], ρ) := rfl
theorem oNone_ok : oNone ρ = .ok (none, ρ) := rfl
theorem tYes_ok : tYesF ρ = .ok (true, ρ) := rfl
theorem sSkip_ok : sSkip ρ = .ok (.nx ρ) := rfl
/-! numbers -/
theorem addD_int : addD (.int i) (.int j) = some (.int (i + j)) := rfl
theorem subD_int : subD (.int i) (.int j) = some (.int (i - j)) := rfl
theorem negD_int : negD (.int i) = some (.int (-i)) := rfl
theorem repD_int (h : bits2 i j = true) : repD (.int i) (.int j) = some (.int (i * j)) := by show (if bits2 i j = true then some (D.int (i * j)) else none) = _; rw [if_pos h]
theorem modD_int (h : 0 < j) : modD (.int i) (.int j) = some (.int (i % j)) := by
  show (if (j != 0) = true then some (D.int (i.fmod j)) else none) = _
  rw [if_pos (by simp; omega), Int.fmod_eq_emod_of_nonneg _ (by omega)]
theorem fdivD_int (h : 0 < j) : fdivD (.int i) (.int j) = some (.int (i / j)) := by
  have e : fdivOk i j = true := by
    unfold fdivOk
    simp
    omega
  show (if fdivOk i j = true then some (D.int (i.fdiv j)) else none) = _
  rw [if_pos e, Int.fdiv_eq_ediv_of_nonneg _ (by omega)]
theorem ltA_int : ltA (.int i) (.int j) = some (.bl (decide (i < j))) := rfl
theorem leA_int : leA (.int i) (.int j) = some (.bl (decide (i ≤ j))) := rfl
theorem gtA_int : gtA (.int i) (.int j) = some (.bl (decide (j < i))) := rfl
theorem geA_int : geA (.int i) (.int j) = some (.bl (decide (j ≤ i))) := rfl
theorem eqD_int : eqD (.int i) (.int j) = some (.bl (decide (i = j))) := by
  show some (D.bl (i == j)) = _
  rw [Bool.beq_eq_decide_eq]
theorem neD_int : neD (.int i) (.int j) = some (.bl (!decide (i = j))) := by
  show some (D.bl (!(i == j))) = _
  rw [Bool.beq_eq_decide_eq]
theorem powD_int {n : Int} (h : powOk i j = true) (hn : i ^ j.toNat = n) : powD (.int i) (.int j) = some (.int n) := by
  subst hn
  show (if powOk i j = true then some (D.int (i ^ j.toNat)) else none) = _
  rw [if_pos h]
theorem pow_10_18 : powD (.int 10) (.int 18) = some (.int 1000000000000000000) := powD_int (by decide) (by decide)
theorem pow_10_60 : powD (.int 10) (.int 60) = some (.int 1000000000000000000000000000000000000000000000000000000000000) := powD_int (by decide) (by decide)
/-! calls -/
theorem bits2_of {i j : Int} {a b : Nat} (ha : i.natAbs < 2 ^ a) (hb : j.natAbs < 2 ^ b) (h : a + b ≤ 130000000) : bits2 i j = true := by
  have h1 : i.natAbs.log2 < a + 1 := by
    by_cases hz : i.natAbs = 0
    · rw [hz]; simp
    · exact Nat.lt_succ_of_lt ((Nat.log2_lt hz).mpr ha)
  have h2 : j.natAbs.log2 < b + 1 := by
    by_cases hz : j.natAbs = 0
    · rw [hz]; simp
    · exact Nat.lt_succ_of_lt ((Nat.log2_lt hz).mpr hb)
  unfold bits2
  rw [decide_eq_true (show i.natAbs.log2 + j.natAbs.log2 < 134000000 by omega)]
  rfl
theorem bits2_l {i j : Int} (hb : i.natAbs < 2 ^ 63) : bits2 i j = true := by
  unfold bits2
  rw [decide_eq_true hb]
  simp
end
end SW

set_option maxRecDepth 100000
/-! SW12: typed data (Enc), loops and comprehensions by typed functions, slices, words. -/
namespace SW
open PySem PySem.Spec PyProof.Rows L2

/-! ### typed data -/
structure Enc (α : Type) [DecidableEq α] where
  en : α → D
  py : α → PyData
  dp : Nat
  hpy : ∀ a, (en a).py = some (py a)
  heq : ∀ a b, PyData.eqv (py a) (py b) = decide (a = b)
  lay : ∀ a, (py a).canLay0 = true
  hdp : ∀ a, (py a).depth ≤ dp
section
variable {α β : Type} [DecidableEq α] [DecidableEq β]
def eInt : Enc Int where
  en := .int
  py := .int
  dp := 0
  hpy _ := rfl
  heq a b := by show (a == b) = _; rw [Bool.beq_eq_decide_eq]
  lay _ := by simp [PyData.canLay0]
  hdp _ := by simp [PyData.depth]
theorem pyL_map (e : Enc α) : ∀ l : List α, D.pyL (l.map e.en) = some (l.map e.py)
  | [] => rfl
  | a :: l => by
    show (match D.py (e.en a), D.pyL (l.map e.en) with
      | some p, some ps => some (p :: ps)
      | _, _ => none) = _
    rw [e.hpy, pyL_map e l]
    rfl
theorem eqvAll_map (e : Enc α) : ∀ a b : List α, PyData.eqvAll (a.map e.py) (b.map e.py) = decide (a = b)
  | [], [] => rfl
  | [], _ :: _ => rfl
  | _ :: _, [] => rfl
  | x :: a, y :: b => by
    show (PyData.eqv (e.py x) (e.py y) && PyData.eqvAll (a.map e.py) (b.map e.py)) = _
    rw [e.heq, eqvAll_map e a b, Bool.eq_iff_iff]
    simp
theorem layAll_map (e : Enc α) : ∀ a : List α, PyData.canLayAll0 (a.map e.py) = true
  | [] => by simp [PyData.canLayAll0]
  | x :: a => by
    show PyData.canLayAll0 (e.py x :: a.map e.py) = true
    rw [PyData.canLayAll0, e.lay, layAll_map e a]
    rfl
theorem dpAll_map (e : Enc α) : ∀ a : List α, PyData.depthAll (a.map e.py) ≤ e.dp
  | [] => by simp [PyData.depthAll]
  | x :: a => by
    show PyData.depthAll (e.py x :: a.map e.py) ≤ _
    rw [PyData.depthAll]
    exact Nat.max_le.mpr ⟨e.hdp x, dpAll_map e a⟩
def eTupOf (e : Enc α) : Enc (List α) where
  en l := .tup (l.map e.en)
  py l := .tuple (l.map e.py)
  dp := e.dp + 1
  hpy l := by show (D.pyL (l.map e.en)).map PyData.tuple = _; rw [pyL_map]; rfl
  heq a b := eqvAll_map e a b
  lay a := by rw [PyData.canLay0]; exact layAll_map e a
  hdp a := by rw [PyData.depth]; have := dpAll_map e a; omega
def eLstOf (e : Enc α) : Enc (List α) where
  en l := .lst (l.map e.en)
  py l := .list (l.map e.py)
  dp := e.dp + 1
  hpy l := by show (D.pyL (l.map e.en)).map PyData.list = _; rw [pyL_map]; rfl
  heq a b := eqvAll_map e a b
  lay a := by rw [PyData.canLay0]; exact layAll_map e a
  hdp a := by rw [PyData.depth]; have := dpAll_map e a; omega
def ePair (e : Enc α) (f : Enc β) : Enc (α × β) where
  en p := .tup [e.en p.1, f.en p.2]
  py p := .tuple [e.py p.1, f.py p.2]
  dp := max e.dp f.dp + 1
  hpy p := by
    have e2 : D.pyL [f.en p.2] = some [f.py p.2] := pyL_map f [p.2]
    have e3 : D.pyL [e.en p.1, f.en p.2] = some [e.py p.1, f.py p.2] := by
      show (match D.py (e.en p.1), D.pyL [f.en p.2] with
        | some p, some ps => some (p :: ps)
        | _, _ => none) = _
      rw [e.hpy, e2]
    show (D.pyL [e.en p.1, f.en p.2]).map PyData.tuple = _
    rw [e3]
    rfl
  heq a b := by
    show (PyData.eqv (e.py a.1) (e.py b.1) && (PyData.eqv (f.py a.2) (f.py b.2) && true)) = _
    rw [e.heq, f.heq, Bool.eq_iff_iff]
    simp [Prod.ext_iff]
  lay a := by simp [PyData.canLay0, PyData.canLayAll0, e.lay, f.lay]
  hdp a := by
    simp only [PyData.depth, PyData.depthAll]
    have := e.hdp a.1
    have := f.hdp a.2
    omega
theorem shaped_enc (e : Enc α) (h : e.dp ≤ 64) (a : α) : SeqAt.shaped (e.py a) = true := by
  unfold SeqAt.shaped
  rw [e.lay, decide_eq_true (Nat.le_trans (e.hdp a) h)]
  rfl
theorem neD_enc (e : Enc α) (h : e.dp ≤ 64) (a b : α) : neD (e.en a) (e.en b) = some (.bl (!decide (a = b))) := by
  unfold neD cmpP
  rw [e.hpy, e.hpy]
  dsimp only
  unfold shOk
  rw [shaped_enc e h, shaped_enc e h, e.heq]
  rfl
end
/-! ### words of whole numbers -/
abbrev eWord : Enc (List Int) := eTupOf eInt
def ltN : List Int → List Int → Bool
  | _, [] => false
  | [], _ :: _ => true
  | x :: xs, y :: ys => if x = y then ltN xs ys else decide (x < y)
theorem ltN_toks : ∀ a b : List Int, PyProof.Rows.lexLt PyProof.Rows.itemOrd (PySem.W.keyToksAll (a.map PyData.int)) (PySem.W.keyToksAll (b.map PyData.int)) = ltN a b
  | [], [] => by rfl
  | [], y :: ys => by
    rw [List.map_nil, List.map_cons, PySem.W.toks_all_cons]
    show PyProof.Rows.lexLt PyProof.Rows.itemOrd (PySem.W.keyToksAll []) _ = true
    rw [PySem.W.keyToksAll]
    rw [PyProof.Rows.lex_diff (O := PyProof.Rows.itemOrd) (by intro z; cases z)]
    rfl
  | x :: xs, [] => by
    rw [List.map_nil, List.map_cons, PySem.W.toks_all_cons]
    show PyProof.Rows.lexLt PyProof.Rows.itemOrd _ (PySem.W.keyToksAll []) = false
    rw [PySem.W.keyToksAll]
    rw [PyProof.Rows.lex_diff (O := PyProof.Rows.itemOrd) (by intro z; cases z)]
    rfl
  | x :: xs, y :: ys => by
    rw [List.map_cons, List.map_cons, PySem.W.toks_all_cons, PySem.W.toks_all_cons, PyProof.Rows.lex_self (O := PyProof.Rows.itemOrd)]
    have e1 : ∀ z : Int, PySem.W.keyToks (.int z) = [Sum.inl z] := fun z => by rw [PySem.W.keyToks]
    rw [e1, e1]
    show PyProof.Rows.lexLt PyProof.Rows.itemOrd (Sum.inl x :: PySem.W.keyToksAll (xs.map PyData.int)) (Sum.inl y :: PySem.W.keyToksAll (ys.map PyData.int)) = (if x = y then ltN xs ys else decide (x < y))
    by_cases h : x = y
    · subst h
      rw [PyProof.Rows.lex_self (O := PyProof.Rows.itemOrd), ltN_toks xs ys, if_pos rfl]
    · rw [PyProof.Rows.lex_diff (O := PyProof.Rows.itemOrd) (fun z => h (Sum.inl.inj z)), if_neg h]
      rfl
theorem alike_ints : ∀ a b : List Int, PySem.W.alikeAll (a.map PyData.int) (b.map PyData.int) = true
  | [], _ => by simp [PySem.W.alikeAll]
  | _ :: _, [] => by simp [PySem.W.alikeAll]
  | x :: a, y :: b => by
    rw [List.map_cons, List.map_cons, PySem.W.alikeAll, PySem.W.alike, alike_ints a b]
    rfl
theorem lt_word (a b : List Int) : PySem.W.dataLt (eWord.py a) (eWord.py b) = ltN a b := by
  show PySem.W.dataLt (.tuple (a.map PyData.int)) (.tuple (b.map PyData.int)) = _
  rw [PySem.W.dataLt_tuple]
  exact ltN_toks a b
/-! ### slices -/
/-! ### loops -/
section
variable {ι σ : Type} {b : D → Rho → Option Rho} {g : Rho → Out Fl} {vs : List Nat} {tt : Rho → Out (Bool × Rho)} {fe : Rho → Out (D × Rho)} {f : ι → D}
/-- a comprehension that turns nothing -/
theorem compL_of {ρ : Rho} {c : ι → Bool} {h : ι → D} : ∀ (l : List ι), (∀ i ∈ l, ∃ ρ1, b (f i) (wipeR ρ vs) = some ρ1 ∧ ∃ ρ2, tt ρ1 = .ok (c i, ρ2) ∧ (c i = false → backR vs ρ ρ2 = ρ) ∧ (c i = true → ∃ ρ3, fe ρ2 = .ok (h i, ρ3) ∧ backR vs ρ ρ3 = ρ)) →
    compL vs b tt fe (l.map f) ρ = .ok ((l.filter c).map h, ρ)
  | [], _ => rfl
  | i :: l, st => by
    obtain ⟨ρ1, e1, ρ2, e2, hf, ht⟩ := st i List.mem_cons_self
    have ih := compL_of l fun j hj => st j (List.mem_cons_of_mem _ hj)
    rw [List.map_cons]
    unfold compL
    rw [e1]
    dsimp only
    rw [e2]
    cases hc : c i with
    | false =>
      dsimp only
      rw [hf hc, ih, List.filter_cons_of_neg (by simp [hc])]
    | true =>
      obtain ⟨ρ3, e3, e4⟩ := ht hc
      dsimp only
      rw [e3]
      dsimp only
      rw [e4, ih, List.filter_cons_of_pos hc, List.map_cons]
      rfl
/-- a loop that turns a state -/
theorem forL_fold {St : σ → Rho → Prop} {step : σ → ι → σ} : ∀ (l : List ι) (s : σ) (ρ : Rho), St s ρ → (∀ i ∈ l, ∀ s ρ, St s ρ → ∃ ρ1 ρ2, b (f i) ρ = some ρ1 ∧ g ρ1 = .ok (.nx ρ2) ∧ St (step s i) ρ2) →
    ∃ ρ', forL b g (l.map f) ρ = .ok (.nx ρ') ∧ St (l.foldl step s) ρ'
  | [], s, ρ, h, _ => ⟨ρ, rfl, h⟩
  | i :: l, s, ρ, h, st => by
    obtain ⟨ρ1, ρ2, e1, e2, h2⟩ := st i List.mem_cons_self s ρ h
    obtain ⟨ρ', e3, h3⟩ := forL_fold l (step s i) ρ2 h2 fun j hj => st j (List.mem_cons_of_mem _ hj)
    refine ⟨ρ', ?_, h3⟩
    rw [List.map_cons]
    unfold forL
    rw [e1]
    dsimp only
    rw [e2, bind_ok]
    exact e3
end
theorem rangeD1 {j : Int} (h0 : 0 ≤ j) (h : j ≤ 16777216) : rangeD [.int j] = some ((List.range j.toNat).map fun i => .int ((i : Nat) : Int)) := by
  show (if j.toNat ≤ 16777216 ∧ j.natAbs ≤ 4611686018427387904 then some (rngI 0 j.toNat) else none) = _
  rw [if_pos ⟨by omega, by omega⟩]
  unfold rngI
  congr 1
  exact List.map_congr_left fun i _ => by rw [Int.zero_add]
end SW

set_option maxRecDepth 100000
/-! SW13: comprehensions inside comprehensions. -/
namespace SW
open PySem PySem.Spec PyProof.Rows L2
end SW

set_option maxRecDepth 100000
/-! SW14: chained comparisons. -/
namespace SW
open PySem PySem.Spec PyProof.Rows L2
section
variable {X : Cx} {W : WX} {os os1 os2 : Os} {e1 e2 e3 : Expr} {f1 f2 f3 : Rho → Out (D × Rho)} {pos : Pos}
end
end SW

set_option maxRecDepth 100000
/-! SW15: a caught error kept as a value. -/
namespace SW
open PySem PySem.Spec PyProof.Rows L2
section
variable {X : Cx} {pins : List (Addr × Obj)} {σ : List (Option V)} {H : Hp} {s : Shared}
end
end SW

set_option maxRecDepth 100000
/-! SW16: dicts: keys by data; d[k], k in d, d.get, d.pop, d[k] = v, len(d), loops over d. -/
namespace SW
open PySem PySem.Spec PyProof.Rows L2

/-! ### keys -/
mutual
theorem keyB_keyD : ∀ {d : D} {k : NestedKey}, keyD d = some k → keyB k = d
  | .non, _, e => by cases e; rfl
  | .int i, _, e => by cases e; rfl
  | .tup ds, k, e => by
    unfold keyD at e
    cases q : keyDs ds with
    | none => rw [q] at e; cases e
    | some ks => rw [q] at e; cases e; unfold keyB; rw [keyBs_keyDs q]
  | .bl _, _, e => by cases e
  | .str _, _, e => by cases e
  | .lst _, _, e => by cases e
  | .dct _, _, e => by cases e
  | .ins _ _, _, e => by cases e
  | .exc _ _, _, e => by cases e
  | .scr _, _, e => by cases e
  | .ty _, _, e => by cases e
theorem keyBs_keyDs : ∀ {ds : List D} {ks : List NestedKey}, keyDs ds = some ks → keyBs ks = ds
  | [], _, e => by cases e; rfl
  | d :: ds, ks, e => by
    unfold keyDs at e
    cases q1 : keyD d with
    | none => rw [q1] at e; cases e
    | some k =>
      cases q2 : keyDs ds with
      | none => rw [q1, q2] at e; cases e
      | some ks' => rw [q1, q2] at e; cases e; unfold keyBs; rw [keyB_keyD q1, keyBs_keyDs q2]
end
def KFree (k : NestedKey) : Prop := ∀ w w', NestedKey.hash w k = NestedKey.hash w' k
mutual
theorem keyD_free : ∀ {d : D} {k : NestedKey}, keyD d = some k → KFree k
  | .non, _, e => by cases e; exact fun _ _ => rfl
  | .int i, _, e => by cases e; exact fun _ _ => rfl
  | .tup ds, k, e => by
    unfold keyD at e
    cases q : keyDs ds with
    | none => rw [q] at e; cases e
    | some ks =>
      rw [q] at e
      cases e
      intro w w'
      unfold NestedKey.hash
      rw [keyDs_free q w w']
  | .bl _, _, e => by cases e
  | .str _, _, e => by cases e
  | .lst _, _, e => by cases e
  | .dct _, _, e => by cases e
  | .ins _ _, _, e => by cases e
  | .exc _ _, _, e => by cases e
  | .scr _, _, e => by cases e
  | .ty _, _, e => by cases e
theorem keyDs_free : ∀ {ds : List D} {ks : List NestedKey}, keyDs ds = some ks → ∀ w w', NestedKey.hashes w ks = NestedKey.hashes w' ks
  | [], _, e => by cases e; exact fun _ _ => rfl
  | d :: ds, ks, e => by
    unfold keyDs at e
    cases q1 : keyD d with
    | none => rw [q1] at e; cases e
    | some k =>
      cases q2 : keyDs ds with
      | none => rw [q1, q2] at e; cases e
      | some ks' =>
        rw [q1, q2] at e
        cases e
        intro w w'
        unfold NestedKey.hashes
        rw [keyD_free q1 w w', keyDs_free q2 w w']
end
theorem keyT_some {d : D} {k : NestedKey} (h : keyT d = some k) : ∃ ds, d = .tup ds ∧ keyD (.tup ds) = some k ∧ k.depth ≤ 8 := by
  unfold keyT at h
  split at h
  · rename_i ds
    split at h
    · rename_i k' hk
      split at h
      · rename_i hd
        cases h
        exact ⟨ds, rfl, hk, hd⟩
      · cases h
    · cases h
  · cases h
theorem keyT_of {ds : List D} {k : NestedKey} (h : keyD (.tup ds) = some k) (hd : k.depth ≤ 8) : keyT (.tup ds) = some k := by
  show (match keyD (.tup ds) with | some k => if k.depth ≤ 8 then some k else none | none => none) = some k
  rw [h]
  exact if_pos hd
theorem keyT_back {d : D} {k : NestedKey} (h : keyT d = some k) : keyT (keyB k) = some k := by
  obtain ⟨ds, rfl, h1, h2⟩ := keyT_some h
  rw [keyB_keyD h1]
  exact keyT_of h1 h2
theorem keyT_B {d : D} {k : NestedKey} (h : keyT d = some k) : keyB k = d := by
  obtain ⟨ds, rfl, h1, h2⟩ := keyT_some h
  exact keyB_keyD h1

section
variable {X : Cx} {pins : List (Addr × Obj)} {σ : L2.St} {H S : Hp} {s : Shared}
mutual
theorem At.nest (I : Inv X pins σ H s) (sub : Same S H) : ∀ {v : V} {d : D} {k : NestedKey} {u : Value}, At X.K S v d → keyD d = some k → RelV v u → NestedIs s.heap k u
  | _, .non, _, _, .non, e, r => by cases e; cases r; exact .none
  | _, .int _, _, _, .int i, e, r => by cases e; obtain ⟨t, rfl⟩ := r; exact .int i t
  | _, .tup ds, k, u, .tup (a := a) (vs := vs) h z q, e, r => by
    unfold keyD at e
    cases q1 : keyDs ds with
    | none => rw [q1] at e; cases e
    | some ks =>
      rw [q1] at e
      cases e
      obtain ⟨its, rv, ⟨o, ho, hc, n, hd⟩, _⟩ := I.tuple (sqT_mono sub h)
      cases (show u = Value.ref a from r)
      exact .tup ho hc hd (by simpa using AtL.nest I sub q q1 rv)
  | _, .bl _, _, _, _, e, _ => by cases e
  | _, .str _, _, _, _, e, _ => by cases e
  | _, .lst _, _, _, _, e, _ => by cases e
  | _, .dct _, _, _, _, e, _ => by cases e
  | _, .ins _ _, _, _, _, e, _ => by cases e
  | _, .exc _ _, _, _, _, e, _ => by cases e
  | _, .scr _, _, _, _, e, _ => by cases e
  | _, .ty _, _, _, _, e, _ => by cases e
theorem AtL.nest (I : Inv X pins σ H s) (sub : Same S H) : ∀ {vs : List V} {ds : List D} {ks : List NestedKey} {us : List Value}, AtL X.K S vs ds → keyDs ds = some ks → Vals vs us → NestedAll s.heap ks us
  | _, [], _, _, .nil, e, .nil => by cases e; exact .nil
  | _, d :: ds, ks, _, .cons h t, e, .cons r rs => by
    unfold keyDs at e
    cases q1 : keyD d with
    | none => rw [q1] at e; cases e
    | some k =>
      cases q2 : keyDs ds with
      | none => rw [q1, q2] at e; cases e
      | some ks' =>
        rw [q1, q2] at e
        cases e
        exact .cons (At.nest I sub h q1 r) (AtL.nest I sub t q2 rs)
end
end
/-- at b stands a tuple that is the key k -/
def KeyAt (K : PySem.W.Frag) (H : Hp) (b : Addr) (k : NestedKey) : Prop := ∃ S d, Same S H ∧ At K S (.ref b) d ∧ keyT d = some k
theorem KeyAt.is {X : Cx} {pins : List (Addr × Obj)} {σ : L2.St} {H : Hp} {s : Shared} {b : Addr} {k : NestedKey} (I : Inv X pins σ H s) (h : KeyAt X.K H b k) : (nestedKind X.prog X.w).is s.heap k b := by
  obtain ⟨S, d, sub, hat, e⟩ := h
  obtain ⟨ds, rfl, h1, h2⟩ := keyT_some e
  exact ⟨At.nest I sub hat h1 rfl, h2⟩

/-! ### tables by V -/
abbrev XL := List (NestedKey × Addr × V)
abbrev XR : XL → List (NestedKey × Addr × Value) → Prop := Paired fun p q => p.1 = q.1 ∧ p.2.1 = q.2.1 ∧ RelV p.2.2 q.2.2
def valX (xs : XL) (k : NestedKey) : Option V := (xs.find? fun p => decide (p.1 = k)).map (·.2.2)
def storeX (xs : XL) (k : NestedKey) (b : Addr) (v : V) : XL := if (valX xs k).isSome = true then xs.map (fun p => if p.1 = k then (p.1, p.2.1, v) else p) else xs ++ [(k, b, v)]
def dropX (xs : XL) (k : NestedKey) : XL := xs.filter fun p => decide (p.1 ≠ k)
def valD (ds : List (NestedKey × D)) (k : NestedKey) : Option D := (ds.find? fun p => decide (p.1 = k)).map (·.2)
def putD (ds : List (NestedKey × D)) (k : NestedKey) (d : D) : List (NestedKey × D) := if (valD ds k).isSome = true then ds.map (fun p => if p.1 = k then (p.1, d) else p) else ds ++ [(k, d)]
def dropD (ds : List (NestedKey × D)) (k : NestedKey) : List (NestedKey × D) := ds.filter fun p => decide (p.1 ≠ k)

theorem XR.val {xs : XL} {ys : List (NestedKey × Addr × Value)} (r : XR xs ys) (k : NestedKey) : RelO (valX xs k) ((atKey ys k).map (·.2)) := by
  induction r with
  | nil => exact True.intro
  | @cons p q ps qs h t ih =>
    obtain ⟨h1, _, h2⟩ := h
    unfold valX atKey at *
    rw [List.find?_cons, List.find?_cons]
    by_cases e : p.1 = k
    · rw [decide_eq_true e, decide_eq_true (h1.symm.trans e)]; exact h2
    · rw [decide_eq_false e, decide_eq_false (fun z => e (h1.trans z))]; exact ih
theorem XR.store {xs : XL} {ys : List (NestedKey × Addr × Value)} (r : XR xs ys) (k : NestedKey) (b : Addr) {v : V} {u : Value} (rv : RelV v u) : XR (storeX xs k b v) (storedH ys k b u) := by
  have e : (valX xs k).isSome = (atKey ys k).isSome := by rw [(r.val k).isSome_eq, Option.isSome_map]
  unfold storeX storedH
  rw [e]
  by_cases q : (atKey ys k).isSome = true
  · rw [if_pos q, if_pos q]
    clear e q
    induction r with
    | nil => exact .nil
    | @cons p q ps qs h t ih =>
      rw [List.map_cons, List.map_cons]
      refine .cons ?_ ih
      obtain ⟨h1, h2, h3⟩ := h
      unfold putAt
      by_cases e : p.1 = k
      · rw [if_pos e, if_pos (h1.symm.trans e)]; exact ⟨h1, h2, rv⟩
      · rw [if_neg e, if_neg (fun z => e (h1.trans z))]; exact ⟨h1, h2, h3⟩
  · rw [if_neg q, if_neg q]; exact Paired.snoc r ⟨rfl, rfl, rv⟩
theorem XR.drop {xs : XL} {ys : List (NestedKey × Addr × Value)} (r : XR xs ys) (k : NestedKey) : XR (dropX xs k) (withoutH ys k) := by
  unfold dropX withoutH
  induction r with
  | nil => exact .nil
  | @cons p q ps qs h t ih =>
    obtain ⟨h1, h2, h3⟩ := h
    rw [List.filter_cons, List.filter_cons]
    by_cases e : p.1 = k
    · have a : ¬ decide (p.1 ≠ k) = true := by simp [e]
      have b : ¬ decide (q.1 ≠ k) = true := by simp [h1.symm.trans e]
      rw [if_neg a, if_neg b]; exact ih
    · have e' : ¬ q.1 = k := fun z => e (h1.trans z)
      have a : decide (p.1 ≠ k) = true := by simp [e]
      have b : decide (q.1 ≠ k) = true := by simp [e']
      rw [if_pos a, if_pos b]; exact .cons ⟨h1, h2, h3⟩ ih
theorem entries_xr {P : Program} {w : World} : ∀ {es : List DictEntry} {xs : XL}, EnL es xs → ∃ ys, XR xs ys ∧ es = ys.map (entryOfKey (nestedKind P w))
  | _, _, .nil => ⟨[], .nil, rfl⟩
  | _, _, .cons (a := en) (b := x) h t => by
    obtain ⟨ys, r, e⟩ := entries_xr (P := P) (w := w) t
    obtain ⟨h1, h2, h3⟩ := h
    refine ⟨(x.1, x.2.1, en.val) :: ys, .cons ⟨rfl, rfl, h3⟩ r, ?_⟩
    rw [List.map_cons, ← e]
    congr 1
    cases en
    dsimp only at h1 h2
    unfold entryOfKey
    dsimp only
    rw [h2, h1 w]
    rfl
theorem xr_entries {P : Program} {w : World} : ∀ {xs : XL} {ys : List (NestedKey × Addr × Value)}, XR xs ys → (∀ p ∈ xs, KFree p.1) → EnL (ys.map (entryOfKey (nestedKind P w))) xs
  | _, _, .nil, _ => .nil
  | _, _, .cons (a := x) (b := y) h t, f => by
    obtain ⟨h1, h2, h3⟩ := h
    rw [List.map_cons]
    refine .cons ⟨fun w' => ?_, ?_, h3⟩ (xr_entries t fun p hp => f p (List.mem_cons_of_mem _ hp))
    · show NestedKey.hash w y.1 = _
      rw [← h1]
      exact f x List.mem_cons_self w w'
    · show Value.ref y.2.1 = _
      rw [h2]
theorem EnL.free {es : List DictEntry} {xs : XL} (h : EnL es xs) : ∀ p ∈ xs, KFree p.1 := by
  induction h with
  | nil => intro p hp; cases hp
  | @cons a b as bs h t ih =>
    intro p hp
    rcases List.mem_cons.mp hp with e | hp
    · subst e
      intro w w'
      rw [← h.1 w, ← h.1 w']
    · exact ih p hp

/-- what is known of the dict at a -/
structure DGood (K : PySem.W.Frag) (H : Hp) (a : Addr) (x : DX) : Prop where
  here : H a = some (DT a x)
  sys : (a == sysModules) = false
  ex : x.o.ExactDict
  nodup : (x.xs.map (·.1)).Nodup
  ens : ∃ es ep, x.o.data = .dict es ep ∧ EnL es.toList x.xs
  len : x.xs.length ≤ sizeLine
  ks : ∀ p ∈ x.xs, KeyAt K H p.2.1 p.1

theorem AtL.split {K : PySem.W.Frag} {S : Hp} : ∀ {vs ws : List V} {ds es : List D}, vs.length = ds.length → AtL K S (vs ++ ws) (ds ++ es) → AtL K S vs ds ∧ AtL K S ws es
  | [], _, [], _, _, h => ⟨.nil, h⟩
  | _ :: _, _, _ :: _, _, e, .cons h t => by
    obtain ⟨a, b⟩ := AtL.split (by simpa using e) t
    exact ⟨.cons h a, b⟩
  | [], _, _ :: _, _, e, _ => by simp at e
  | _ :: _, _, [], _, e, _ => by simp at e
section
variable {K : PySem.W.Frag} {S H : Hp} {a : Addr} {x : DX} {ds : List (NestedKey × D)}
theorem DTok.len (t : DTok a x ds) : x.xs.length = ds.length := by
  have := congrArg List.length t.keys
  simpa using this
theorem dct_split (t : DTok a x ds) (r : AtL K S x.vs (dvs ds)) : AtL K S (x.xs.map fun p => V.ref p.2.1) (ds.map fun p => keyB p.1) ∧ AtL K S (x.xs.map fun p => p.2.2) (ds.map fun p => p.2) :=
  AtL.split (by rw [List.length_map, List.length_map]; exact t.len) r
theorem good_of (h : H a = some (DT a x)) (t : DTok a x ds) (z : ds.length ≤ sizeLine) (r : AtL K S x.vs (dvs ds)) (sub : Same S H) : DGood K H a x where
  here := h
  sys := t.sys
  ex := t.ex
  nodup := t.nodup
  ens := t.ens
  len := by rw [t.len]; exact z
  ks := fun p hp => by
    obtain ⟨j, hj⟩ := List.mem_iff_getElem?.mp hp
    obtain ⟨r1, _⟩ := dct_split t r
    obtain ⟨d, ed, hat⟩ := r1.getV (i := j) (v := .ref p.2.1) (by rw [List.getElem?_map, hj]; rfl)
    have e : (ds.map (·.1))[j]? = some p.1 := by rw [← t.keys, List.getElem?_map, hj]; rfl
    rw [List.getElem?_map] at e ed
    cases q : ds[j]? with
    | none => rw [q] at e; cases e
    | some y =>
      rw [q] at e ed
      have e1 : y.1 = p.1 := Option.some.inj e
      have e2 : keyB y.1 = d := Option.some.inj ed
      rw [← e2, e1] at hat
      exact ⟨S, _, sub, hat, t.kk p hp⟩
theorem find_keys {α β : Type} (f : α → NestedKey) (g : β → NestedKey) (k : NestedKey) : ∀ {xs : List α} {ys : List β}, xs.map f = ys.map g → (∃ j : Nat, (xs.find? fun p => decide (f p = k)) = xs[j]? ∧ (ys.find? fun p => decide (g p = k)) = ys[j]?)
  | [], [], _ => ⟨0, rfl, rfl⟩
  | [], _ :: _, e => by simp at e
  | _ :: _, [], e => by simp at e
  | x :: xs, y :: ys, e => by
    rw [List.map_cons, List.map_cons] at e
    injection e with e1 e2
    by_cases h : f x = k
    · exact ⟨0, by simp [List.find?_cons, h], by simp [List.find?_cons, ← e1, h]⟩
    · obtain ⟨j, h1, h2⟩ := find_keys f g k e2
      exact ⟨j + 1, by simp [List.find?_cons, h, h1], by simp [List.find?_cons, ← e1, h, h2]⟩
theorem val_at (t : DTok a x ds) (r : AtL K S x.vs (dvs ds)) (k : NestedKey) : (∃ v d, valX x.xs k = some v ∧ valD ds k = some d ∧ At K S v d) ∨ (valX x.xs k = none ∧ valD ds k = none) := by
  obtain ⟨_, r2⟩ := dct_split t r
  obtain ⟨j, e1, e2⟩ := find_keys (fun p : NestedKey × Addr × V => p.1) (fun p : NestedKey × D => p.1) k t.keys
  have hl := t.len
  unfold valX valD
  rw [e1, e2]
  cases q : x.xs[j]? with
  | none =>
    have : ds[j]? = none := by
      rw [List.getElem?_eq_none_iff] at q ⊢
      omega
    rw [this]
    exact .inr ⟨rfl, rfl⟩
  | some p =>
    obtain ⟨d, ed, hat⟩ := r2.getV (i := j) (v := p.2.2) (by rw [List.getElem?_map, q]; rfl)
    rw [List.getElem?_map] at ed
    cases q2 : ds[j]? with
    | none => rw [q2] at ed; cases ed
    | some y => rw [q2] at ed; exact .inl ⟨_, _, rfl, ed, hat⟩
end
section
variable {X : Cx} {pins : List (Addr × Obj)} {σ : L2.St} {H : Hp} {s : Shared} {a b : Addr} {x : DX} {k : NestedKey} {A : Around} {E : Value → Shared → Prop} {v : V} {u r : Value}
theorem DGood.dict (g : DGood X.K H a x) (I : Inv X pins σ H s) : ∃ ys, XR x.xs ys ∧ s.heap.DictOfH (nestedKind X.prog X.w) a ys ∧ ys.length ≤ sizeLine ∧ s.heap.get? a = some x.o := by
  have ho : s.heap.get? a = some x.o := (show ObjOk X.prog X.w H s.heap a (DT a x) from I.hok a _ g.here).1
  obtain ⟨es, ep, hd, en⟩ := g.ens
  obtain ⟨ys, r, e⟩ := entries_xr (P := X.prog) (w := X.w) en
  have hk : x.xs.map (·.1) = ys.map (·.1) := by
    clear e en
    have n := g.nodup
    clear n
    generalize x.xs = xs at r
    induction r with
    | nil => rfl
    | cons h t ih => rw [List.map_cons, List.map_cons, ih, h.1]
  refine ⟨ys, r, ⟨x.o, es, ep, ho, g.ex, hd, e, fun y hy => ?_, by rw [← hk]; exact g.nodup⟩, by rw [← Paired.length r]; exact g.len, ho⟩
  have all : ∀ {l : XL} {m : List (NestedKey × Addr × Value)}, XR l m → (∀ p ∈ l, (nestedKind X.prog X.w).is s.heap p.1 p.2.1) → ∀ y ∈ m, (nestedKind X.prog X.w).is s.heap y.1 y.2.1 := by
    intro l m q
    induction q with
    | nil => intro _ y hy; cases hy
    | @cons p q ps qs hq t ih =>
      intro hl y hy
      rcases List.mem_cons.mp hy with e | hy
      · subst e
        have := hl p List.mem_cons_self
        rw [hq.1, hq.2.1] at this
        exact this
      · exact ih (fun p hp => hl p (List.mem_cons_of_mem _ hp)) y hy
  exact all r (fun p hp => (g.ks p hp).is I) y hy
theorem dt_ok {P : Program} {w : World} {h : Heap} (e : h.get? a = some x.o) : ObjOk P w H h a (DT a x) := ⟨e, ⟨_, e⟩, fun _ _ p k => k _ p⟩
theorem DGood.typeIs (g : DGood X.K H a x) (I : Inv X pins σ H s) : s.TypeIs (.ref a) "dict" := by
  obtain ⟨ys, _, d, _, _⟩ := g.dict I
  exact d.typeIs
theorem DGood.noDict (g : DGood X.K H a x) (I : Inv X pins σ H s) : ∀ c, Value.ref a = .ref c → ∃ ob, s.heap.get? c = some ob ∧ ob.dict = none := fun c e => by
  cases e
  obtain ⟨ys, _, _, _, ho⟩ := g.dict I
  exact ⟨x.o, ho, g.ex.2.1⟩
theorem roomN (hu : A.units + 64 < cLine) : (nestedKind X.prog X.w).room A.in1 := by
  show A.units + 1 + 8 < cLine
  omega
/-- d[k], there -/
theorem dn_getItem {Q : Value → Shared → Prop} (hu : A.units + 64 < cLine) (I : Inv X pins σ H s) (g : DGood X.K H a x) (hk : KeyAt X.K H b k) (l : valX x.xs k = some v) (h : ∀ w' s', Inv X pins σ H s' → RelV v w' → Q w' s') :
    wpAny (model X.prog X.w) A (getItem (.ref a) (.ref b)) Q E s := by
  obtain ⟨ys, rel, dd, z, _⟩ := g.dict I
  obtain ⟨w', hw, rw'⟩ := RelO.some_of (v := v) (o := (atKey ys k).map (·.2)) (by rw [← l]; exact rel.val k)
  obtain ⟨p, hp, hp2⟩ := Option.map_eq_some_iff.mp hw
  refine wpAny_getItem_heap (roomN (X := X) hu) (hk.is I) dd hp ?_
  rw [hp2]
  exact h w' _ (I.tok _) rw'
theorem dn_in {Q : Value → Shared → Prop} (hu : A.units + 64 < cLine) (I : Inv X pins σ H s) (g : DGood X.K H a x) (hk : KeyAt X.K H b k) (h : ∀ s', Inv X pins σ H s' → Q (.bool (valX x.xs k).isSome) s') :
    wpAny (model X.prog X.w) A (compareOp .In (.ref b) (.ref a)) Q E s := by
  obtain ⟨ys, rel, dd, z, _⟩ := g.dict I
  refine wpAny_in_heap (roomN (X := X) hu) (hk.is I) g.sys dd ?_
  have q := (rel.val k).isSome_eq
  rw [Option.isSome_map] at q
  rw [← q]
  exact h _ (I.tok _)
/-- d.get(k, z) -/
theorem dn_get2 {d : V} {Q : Value → Shared → Prop} (hu : A.units + 64 < cLine) (I : Inv X pins σ H s) (g : DGood X.K H a x) (hk : KeyAt X.K H b k) (rd : RelV d r) (h : ∀ w' s', Inv X pins σ H s' → RelV ((valX x.xs k).getD d) w' → Q w' s') :
    wpAny (model X.prog X.w) A (call (.builtin "dict.get") [.ref a, .ref b, r]) Q E s := by
  obtain ⟨ys, rel, dd, z, _⟩ := g.dict I
  exact call_meetsIn PySem.F.slot_dict_get dd.typeIs PySem.F.entry_dict_get (PySem.F.args_dict_get_3 _ _ _) (meetsH_dict_get_default (nestedKind X.prog X.w) a b g.sys r) ⟨roomN (X := X) hu, k, ys, hk.is I, dd, h _ _ (I.tok _) ((rel.val k).getD rd)⟩
/-- the dict's object and its table are new -/
def NewX (a : Addr) (xs : XL) (y : DX) : Prop := y.xs = xs ∧ (a == sysModules) = false ∧ y.o.ExactDict ∧ (xs.map (·.1)).Nodup ∧ ∃ es ep, y.o.data = .dict es ep ∧ EnL es.toList xs
theorem new_x {h' : Heap} {xs : XL} {ys : List (NestedKey × Addr × Value)} (hs : (a == sysModules) = false) (dd : h'.DictOfH (nestedKind X.prog X.w) a ys) (rel : XR xs ys) (f : ∀ p ∈ xs, KFree p.1) : ∃ y : DX, NewX a xs y ∧ h'.get? a = some y.o := by
  obtain ⟨o, es, ep, ho, hx, hd, he, his, hn⟩ := dd
  clear his
  have hk : xs.map (·.1) = ys.map (·.1) := by
    clear f he hn
    induction rel with
    | nil => rfl
    | cons h t ih => rw [List.map_cons, List.map_cons, ih, h.1]
  exact ⟨⟨o, xs⟩, ⟨rfl, hs, hx, by rw [hk]; exact hn, es, ep, hd, by rw [he]; exact xr_entries rel f⟩, ho⟩
theorem DGood.free (g : DGood X.K H a x) : ∀ p ∈ x.xs, KFree p.1 := by
  obtain ⟨es, ep, _, en⟩ := g.ens
  exact en.free
theorem KeyAt.free (h : KeyAt X.K H b k) : KFree k := by
  obtain ⟨S, d, sub, hat, e⟩ := h
  obtain ⟨ds, rfl, h1, h2⟩ := keyT_some e
  exact keyD_free h1
theorem storeX_mem {xs : XL} {p : NestedKey × Addr × V} (h : p ∈ storeX xs k b v) : p.1 = k ∧ p.2.1 = b ∨ ∃ q ∈ xs, q.1 = p.1 ∧ q.2.1 = p.2.1 := by
  unfold storeX at h
  split at h
  · obtain ⟨q, hq, e⟩ := List.mem_map.mp h
    refine .inr ⟨q, hq, ?_⟩
    split at e <;> subst e <;> exact ⟨rfl, rfl⟩
  · rcases List.mem_append.mp h with h | h
    · exact .inr ⟨p, h, rfl, rfl⟩
    · have : p = (k, b, v) := by simpa using h
      subst this
      exact .inl ⟨rfl, rfl⟩
/-- d[k] = v -/
theorem dn_setItem {Q : Unit → Shared → Prop} (hu : A.units + 64 < cLine) (I : Inv X pins σ H s) (g : DGood X.K H a x) (hk : KeyAt X.K H b k) (rv : RelV v r) (h : ∀ y s', NewX a (storeX x.xs k b v) y → Inv X pins σ (upd H a (DT a y)) s' → Q () s') :
    wpAny (model X.prog X.w) A (setItem (.ref a) (.ref b) r) Q E s := by
  obtain ⟨ys, rel, dd, z, _⟩ := g.dict I
  refine wpAny_setItem_heap (hsz := z) (roomN (X := X) hu) (hk.is I) dd fun h' dd' hs => ?_
  obtain ⟨y, ny, ho⟩ := new_x (X := X) g.sys dd' (rel.store k b rv) fun p hp => by
    rcases storeX_mem hp with ⟨e, _⟩ | ⟨q, hq, e, _⟩
    · rw [e]; exact hk.free
    · rw [← e]; exact g.free q hq
  exact h y _ ny (d_write I (by rw [g.here]; exact True.intro) hs ⟨_, ho⟩ (dt_ok ho))
/-- d.pop(k), there -/
theorem dn_pop {Q : Value → Shared → Prop} (hu : A.units + 64 < cLine) (I : Inv X pins σ H s) (g : DGood X.K H a x) (hk : KeyAt X.K H b k) (l : valX x.xs k = some v) (h : ∀ y w' s', NewX a (dropX x.xs k) y → RelV v w' → Inv X pins σ (upd H a (DT a y)) s' → Q w' s') :
    wpAny (model X.prog X.w) A (call (.builtin "dict.pop") [.ref a, .ref b]) Q E s := by
  obtain ⟨ys, rel, dd, z, _⟩ := g.dict I
  obtain ⟨w', hw, rw'⟩ := RelO.some_of (v := v) (o := (atKey ys k).map (·.2)) (by rw [← l]; exact rel.val k)
  obtain ⟨p, hp, hp2⟩ := Option.map_eq_some_iff.mp hw
  refine call_pop_heap (hsz := z) (.inl rfl) (PySem.F.args_dict_pop_2 _ _) (roomN (X := X) hu) (hk.is I) g.sys dd hp fun h' dd' hs => ?_
  obtain ⟨y, ny, ho⟩ := new_x (X := X) g.sys dd' (rel.drop k) fun p hp => g.free p (List.mem_filter.mp hp).1
  exact h y _ _ ny (by rw [hp2]; exact rw') (d_write I (by rw [g.here]; exact True.intro) hs ⟨_, ho⟩ (dt_ok ho))
/-- len(d) -/
theorem dn_len {Q : Value → Shared → Prop} (I : Inv X pins σ H s) (g : DGood X.K H a x) (h : ∀ t s', Inv X pins σ H s' → Q (.int (x.xs.length : Nat) t) s') : wpAny (model X.prog X.w) A (call (.builtin "len") [.ref a]) Q E s := by
  obtain ⟨ys, rel, dd, z, _⟩ := g.dict I
  refine call_len_dictH g.sys dd (by rw [sizeLine_eq] at z; omega) ?_
  rw [← Paired.length rel]
  exact h _ _ (I.tok _)
end
end SW

set_option maxRecDepth 100000
/-! SW17: dicts in expressions and statements. -/
namespace SW
open PySem PySem.Spec PyProof.Rows L2

/-! ### what is in a dict, entry by entry -/
abbrev XD (K : PySem.W.Frag) (S : Hp) : XL → List (NestedKey × D) → Prop := Paired fun p q => p.1 = q.1 ∧ At K S (.ref p.2.1) (keyB q.1) ∧ At K S p.2.2 q.2
section
variable {K : PySem.W.Frag} {S H : Hp} {a b : Addr} {x y : DX} {ds : List (NestedKey × D)} {k : NestedKey} {v : V} {d dk : D}
theorem xd_of : ∀ {xs : XL} {ds : List (NestedKey × D)}, xs.map (·.1) = ds.map (·.1) → AtL K S (xs.map fun p => V.ref p.2.1) (ds.map fun p => keyB p.1) → AtL K S (xs.map fun p => p.2.2) (ds.map fun p => p.2) → XD K S xs ds
  | [], [], _, _, _ => .nil
  | [], _ :: _, e, _, _ => by simp at e
  | _ :: _, [], e, _, _ => by simp at e
  | p :: xs, q :: ds, e, .cons h1 t1, .cons h2 t2 => by
    rw [List.map_cons, List.map_cons] at e
    injection e with e1 e2
    exact .cons ⟨e1, h1, h2⟩ (xd_of e2 t1 t2)
theorem of_xd : ∀ {xs : XL} {ds : List (NestedKey × D)}, XD K S xs ds → xs.map (·.1) = ds.map (·.1) ∧ AtL K S (xs.map fun p => V.ref p.2.1) (ds.map fun p => keyB p.1) ∧ AtL K S (xs.map fun p => p.2.2) (ds.map fun p => p.2)
  | _, _, .nil => ⟨rfl, .nil, .nil⟩
  | _, _, .cons h t => by
    obtain ⟨a, b, c⟩ := of_xd t
    refine ⟨?_, .cons h.2.1 b, .cons h.2.2 c⟩
    rw [List.map_cons, List.map_cons, a, h.1]
theorem DTok.xd (t : DTok a x ds) (r : AtL K S x.vs (dvs ds)) : XD K S x.xs ds := by
  obtain ⟨r1, r2⟩ := dct_split t r
  exact xd_of t.keys r1 r2
theorem XD.val {xs : XL} (r : XD K S xs ds) (k : NestedKey) : (valX xs k).isSome = (valD ds k).isSome := by
  induction r with
  | nil => rfl
  | @cons p q ps qs h t ih =>
    unfold valX valD at *
    rw [List.find?_cons, List.find?_cons]
    by_cases e : p.1 = k
    · rw [decide_eq_true e, decide_eq_true (h.1.symm.trans e)]; rfl
    · rw [decide_eq_false e, decide_eq_false (fun z => e (h.1.trans z))]; exact ih
theorem XD.store {xs : XL} (r : XD K S xs ds) (hb : At K S (.ref b) (keyB k)) (hv : At K S v d) : XD K S (storeX xs k b v) (putD ds k d) := by
  unfold storeX putD
  rw [r.val k]
  split
  · rename_i q
    clear q
    induction r with
    | nil => exact .nil
    | @cons p q ps qs h t ih =>
      rw [List.map_cons, List.map_cons]
      refine .cons ?_ ih
      obtain ⟨h1, h2, h3⟩ := h
      by_cases e : p.1 = k
      · rw [if_pos e, if_pos (h1.symm.trans e)]; exact ⟨h1, h2, hv⟩
      · rw [if_neg e, if_neg (fun z => e (h1.trans z))]; exact ⟨h1, h2, h3⟩
  · exact Paired.snoc r ⟨rfl, hb, hv⟩
theorem XD.drop {xs : XL} (r : XD K S xs ds) (k : NestedKey) : XD K S (dropX xs k) (dropD ds k) := by
  unfold dropX dropD
  induction r with
  | nil => exact .nil
  | @cons p q ps qs h t ih =>
    obtain ⟨h1, h2, h3⟩ := h
    rw [List.filter_cons, List.filter_cons]
    by_cases e : p.1 = k
    · have a : ¬ decide (p.1 ≠ k) = true := by simp [e]
      have b : ¬ decide (q.1 ≠ k) = true := by simp [h1.symm.trans e]
      rw [if_neg a, if_neg b]; exact ih
    · have e' : ¬ q.1 = k := fun z => e (h1.trans z)
      have a : decide (p.1 ≠ k) = true := by simp [e]
      have b : decide (q.1 ≠ k) = true := by simp [e']
      rw [if_pos a, if_pos b]; exact .cons ⟨h1, h2, h3⟩ ih
/-- a new object with a new table is a dict of these data -/
theorem NewX.tok {xs : XL} (n : NewX a xs y) (r : XD K S xs ds) (hk : ∀ p ∈ xs, keyT (keyB p.1) = some p.1) : DTok a y ds ∧ AtL K S y.vs (dvs ds) := by
  obtain ⟨rfl, h1, h2, h3, h4⟩ := n
  obtain ⟨e, r1, r2⟩ := of_xd r
  exact ⟨⟨h1, h2, e, h3, hk, h4⟩, r1.append r2⟩
theorem store_kk {xs : XL} (h : ∀ p ∈ xs, keyT (keyB p.1) = some p.1) (hk : keyT dk = some k) : ∀ p ∈ storeX xs k b v, keyT (keyB p.1) = some p.1 := fun p hp => by
  rcases storeX_mem hp with ⟨e, _⟩ | ⟨q, hq, e, _⟩
  · rw [e]; exact keyT_back hk
  · rw [← e]; exact h q hq
theorem drop_kk {xs : XL} (h : ∀ p ∈ xs, keyT (keyB p.1) = some p.1) : ∀ p ∈ dropX xs k, keyT (keyB p.1) = some p.1 := fun p hp => h p (List.mem_filter.mp hp).1
theorem putD_len (ds : List (NestedKey × D)) (k : NestedKey) (d : D) : (putD ds k d).length ≤ ds.length + 1 := by
  unfold putD
  split
  · rw [List.length_map]; omega
  · rw [List.length_append]; simp
theorem dropD_len (ds : List (NestedKey × D)) (k : NestedKey) : (dropD ds k).length ≤ ds.length := List.length_filter_le _ _
theorem at_key {K : PySem.W.Frag} {S : Hp} {v : V} {d : D} {k : NestedKey} (h : At K S v d) (e : keyT d = some k) : ∃ b, v = .ref b ∧ At K S (.ref b) (keyB k) := by
  have e2 := keyT_B e
  obtain ⟨ds, rfl, _, _⟩ := keyT_some e
  rw [e2]
  cases h with
  | tup h z r => exact ⟨_, rfl, .tup h z r⟩
theorem key_at {K : PySem.W.Frag} {S H : Hp} {b : Addr} {d : D} {k : NestedKey} (h : At K S (.ref b) d) (e : keyT d = some k) (sub : Same S H) : KeyAt K H b k := ⟨S, d, sub, h, e⟩
end

section
variable {X : Cx} {W : WX} {L : Lc} {os os1 os2 os3 : Os} {e e1 e2 e3 : Expr} {f f1 f2 f3 : Rho → Out (D × Rho)} {pos p : Pos} {td ty tx : TE} {t1 t2 : TE} {o i : Expr}
theorem pe_or (h1 : PE X e t1) (h2 : PE X e t2) : PE X e (fun σ H Q => t1 σ H Q ∨ t2 σ H Q) := ⟨fun pins s σ H Q I q => q.elim (h1.run pins s σ H Q I) (h2.run pins s σ H Q I)⟩
theorem turnX {S H : Hp} {σ : Sg} {ρ : Rho} {i : Nat} {a : Addr} {y : DX} {ds : List (NestedKey × D)} (rel : Rel X.K S H os σ ρ) (ho : os.getD i false = true) (ev : σ[i]? = some (some (.ref a))) (na : S a = none) (z : ds.length ≤ sizeLine) (t : DTok a y ds) (r : AtL X.K S y.vs (dvs ds)) :
    Rel X.K S (upd H a (DT a y)) os σ (ρ.set i (some (.dct ds))) ∧ Stp os σ S H os σ S (upd H a (DT a y)) :=
  ⟨rel.turn ho ev ⟨a, rfl, na, _, upd_same, .dct t z r⟩, Stp.turn rel ho ev⟩

/-! ### d[k] -/
def ixA : D → D → Option D
  | .dct ds, k => (keyT k).bind (valD ds)
  | d, k => ixD d k
theorem ixA_ne {d k : D} (h : ∀ ds, d ≠ .dct ds) : ixA d k = ixD d k := by
  cases d <;> first | rfl | exact (h _ rfl).elim
def tDIxN (K : PySem.W.Frag) (td ty : TE) : TE := fun σ H Q => td σ H fun x H1 => ty σ H1 fun y H2 => ∃ a b dx k v, x = .ref a ∧ y = .ref b ∧ DGood K H2 a dx ∧ KeyAt K H2 b k ∧ valX dx.xs k = some v ∧ Q v H2
theorem pe_dixN (hu : X.A.units + 64 < cLine) (ho : PE X o td) (hi : PE X i ty) (hs : PlainIx i) : PE X (.Subscript o i pos) (tDIxN X.K td ty) := by
  refine ⟨fun pins s σ H Q I h => ?_⟩
  refine subD_of PySem.F.slot_dict_getitem.lookup hs (thn (ho.run pins s σ H _ I h) fun u s1 ⟨x, H1, I1, rx, q1⟩ => thn (hi.run pins s1 σ H1 _ I1 q1) fun iv s2 ⟨y, H2, I2, ry, a, b, dx, k, v, ex, ey, g, hk, l, q2⟩ => ?_)
  subst ex ey
  obtain rfl : u = Value.ref a := rx
  obtain rfl : iv = Value.ref b := ry
  exact ⟨g.typeIs I2, dn_getItem hu I2 g hk l fun w' s3 I3 rw' => ⟨v, H2, I3, rw', q2⟩⟩
theorem ve_ixA (hu : X.A.units + 64 < cLine) (ha : VE X W os e1 f1 os1 false) (hb : VE X W os1 e2 f2 os2 false) (hs : PlainIx e2 := by exact fun _ _ => rfl) : VE X W os (.Subscript e1 e2 pos) (eOp2 ixA f1 f2) os2 false := by
  obtain ⟨t0, p0, k0⟩ : VE X W os (.Subscript e1 e2 pos) (eOp2 ixD f1 f2) os2 false := ve_ix ha hb hs
  obtain ⟨ta, pa, ka⟩ := ha
  obtain ⟨tb, pb, kb⟩ := hb
  refine ⟨_, pe_or p0 (pe_dixN hu pa pb hs), fun S σ H ρ Q rel P => ?_⟩
  by_cases hd : ∃ ds ρ1, f1 ρ = .ok (.dct ds, ρ1)
  · obtain ⟨ds, ρ1, hf⟩ := hd
    refine .inr (ka S σ H ρ _ rel ?_)
    unfold eOp2 at P
    rw [hf] at P ⊢
    intro v S1 H1 st1 rel1 q1
    have P1 : Post X W S1 H1 os1 σ os2 (RV X.K false) Q ((f2 ρ1).bind fun q => (Out.of (ixA (.dct ds) q.1)).bind fun c => .ok (c, q.2)) := Post.step RV.ok P st1
    refine kb S1 σ H1 ρ1 _ rel1 (Post.seq P1 (fun z => z) (fun c fs p => p) fun d2 ρ2 v2 S2 H2 st2 rel2 q2 P2 => ?_)
    obtain ⟨c, hc, kk⟩ := post_of (P2.step RV.ok st2) rel2
    have hc : (keyT d2).bind (valD ds) = some c := hc
    obtain ⟨k, hk, hv⟩ := Option.bind_eq_some_iff.mp hc
    have q2 : At X.K S2 v2 d2 := q2
    obtain ⟨b, rfl, hb⟩ := at_key q2 hk
    cases (At.mono st2.ext.s (show At X.K S1 v (.dct ds) from q1)) with
    | @dct a x _ h t z r =>
      rcases val_at t r k with ⟨w, d, e1, e2, hat⟩ | ⟨_, e2⟩
      · rw [hv] at e2
        cases e2
        exact ⟨a, b, x, k, w, rfl, rfl, good_of (rel2.sub _ _ h) t z r rel2.sub, key_at q2 hk rel2.sub, e1, kk w S2 H2 (Ext.refl rel2.sub) hat⟩
      · rw [hv] at e2; cases e2
  · refine .inl (k0 S σ H ρ Q rel ?_)
    have e : eOp2 ixA f1 f2 ρ = eOp2 ixD f1 f2 ρ := by
      unfold eOp2
      cases hf : f1 ρ with
      | ok z =>
        obtain ⟨d, ρ1⟩ := z
        show ((f2 ρ1).bind fun q => (Out.of (ixA d q.1)).bind fun c => .ok (c, q.2)) = (f2 ρ1).bind fun q => (Out.of (ixD d q.1)).bind fun c => .ok (c, q.2)
        congr 1
        funext q
        rw [ixA_ne fun ds z => hd ⟨ds, ρ1, by rw [hf, z]⟩]
      | exc c fs => rfl
      | stuck => rfl
    rw [← e]
    exact P
/-- x[e], x an owning name -/
def eIxA (i : Nat) (f : Rho → Out (D × Rho)) : Rho → Out (D × Rho) := fun ρ => match ρ.getD i none with
  | some (.dct _) => (f ρ).bind fun p => match p.2.getD i none with
    | some (.dct ds) => (Out.of ((keyT p.1).bind (valD ds))).bind fun c => .ok (c, p.2)
    | _ => .stuck
  | some _ => eIxO i f ρ
  | none => .stuck
theorem ve_ixAO (hu : X.A.units + 64 < cLine) (i : Nat) {x : Str} (hb : VE X W os e2 f2 os1 false) (ho : os.getD i false = true := by rfl) (ho1 : os1.getD i false = true := by rfl) (hN : X.N[i]? = some x := by rfl) (hv : Vis X.env.scope x := by first | exact Or.inl rfl | exact Or.inr (Or.inl rfl) | exact Or.inr (Or.inr rfl))
    (hs : PlainIx e2 := by exact fun _ _ => rfl) (hd : (x == ("__debug__" : Str)) = false := by decide) (hcd : (x == ("__classdict__" : Str)) = false := by decide) : VE X W os (.Subscript (.Name x p) e2 pos) (eIxA i f2) os1 false := by
  obtain ⟨t0, p0, k0⟩ : VE X W os (.Subscript (.Name x p) e2 pos) (fun ρ => match ρ.getD i none with | some _ => eIxO i f2 ρ | none => .stuck) os1 false := ve_ixO i hb ho ho1 hN hv hs hd hcd
  obtain ⟨tb, pb, kb⟩ := hb
  refine ⟨_, pe_or p0 (pe_dixN hu (pe_var hN hv hd hcd) pb hs), fun S σ H ρ Q rel P => ?_⟩
  unfold eIxA at P
  cases h0 : ρ.getD i none with
  | none => rw [h0] at P; exact P.elim
  | some d0 =>
    rw [h0] at P
    by_cases hdd : ∃ ds, d0 = .dct ds
    · obtain ⟨ds0, rfl⟩ := hdd
      obtain ⟨v, ev, _⟩ := rel.own (getD_some h0) ho
      refine .inr ⟨v, ev, kb S σ H ρ _ rel (Post.seq P (fun z => z) (fun c fs p => p) fun d2 ρ2 v2 S2 H2 st2 rel2 q2 P2 => ?_)⟩
      have P2 := P2.step RV.ok st2
      dsimp only at P2
      cases h1 : ρ2.getD i none with
      | none => rw [h1] at P2; exact P2.elim
      | some d1 =>
        rw [h1] at P2
        obtain ⟨v', ev', hown⟩ := rel2.own (getD_some h1) ho1
        rw [ev] at ev'
        cases ev'
        obtain ⟨a, ea, na, oo, eh, bd⟩ := hown
        subst ea
        cases bd with
        | @dct x ds t z r =>
          have P2 : Post X W S2 H2 os1 σ os1 (RV X.K false) Q ((Out.of ((keyT d2).bind (valD ds))).bind fun c => .ok (c, ρ2)) := P2
          obtain ⟨c, hc, kk⟩ := post_of P2 rel2
          obtain ⟨k, hk, hv⟩ := Option.bind_eq_some_iff.mp hc
          have q2 : At X.K S2 v2 d2 := q2
          obtain ⟨b, rfl, hb⟩ := at_key q2 hk
          rcases val_at t r k with ⟨w, d, e1, e2, hat⟩ | ⟨_, e2⟩
          · rw [hv] at e2
            cases e2
            exact ⟨a, b, x, k, w, rfl, rfl, good_of eh t z r rel2.sub, key_at q2 hk rel2.sub, e1, kk w S2 H2 (Ext.refl rel2.sub) hat⟩
          · rw [hv] at e2; cases e2
        | _ => exact P2.elim
    · refine .inl (k0 S σ H ρ Q rel ?_)
      dsimp only
      rw [h0]
      cases d0 <;> first | exact P | exact (hdd ⟨_, rfl⟩).elim

/-! ### k in d, len(d) -/
def inDct : D → D → Option D
  | k, .dct ds => (keyT k).map fun k => .bl (valD ds k).isSome
  | _, _ => none
def rInN (K : PySem.W.Frag) (f : Bool → Bool) : R2 := fun x y H Q => ∃ a b dx k, x = .ref b ∧ y = .ref a ∧ DGood K H a dx ∧ KeyAt K H b k ∧ Q (.bl (f (valX dx.xs k).isSome)) H
theorem op_inN (hu : X.A.units + 64 < cLine) : OpR X (compareOp .In) (rInN X.K id) := by
  intro pins s σ H x y v u Q I rx ry h
  obtain ⟨a, b, dx, k, rfl, rfl, g, hk, q⟩ := h
  obtain rfl : v = Value.ref b := rx
  obtain rfl : u = Value.ref a := ry
  exact dn_in hu I g hk fun s3 I3 => ⟨.bl _, H, I3, rfl, q⟩
theorem o_inN (hu : X.A.units + 64 < cLine) : Op2 X (compareOp .In) inDct := ⟨_, op_inN hu, fun S H x y a b c Q sub ha hb e k => by
  cases hb with
  | @dct q dx ds h t z r =>
    obtain ⟨kk, hk, rfl⟩ := Option.map_eq_some_iff.mp (show (keyT a).map _ = some c from e)
    obtain ⟨b', rfl, hb'⟩ := at_key ha hk
    refine ⟨q, b', dx, kk, rfl, rfl, good_of (sub _ _ h) t z r sub, key_at ha hk sub, ?_⟩
    rw [(t.xd r).val kk]
    exact k _ S H (Ext.refl sub) (.bl _)
  | _ => cases e⟩
def inA : D → D → Option D := fun a b => match inDct a b with | some c => some c | none => inD a b
theorem o_inA (hu : X.A.units + 65 < cLine) : Op2 X (compareOp .In) inA := (o_inN (by omega)).or (o_in hu)
def lenDct : List D → Option D
  | [.dct ds] => some (.int ds.length)
  | _ => none
def rLenN (K : PySem.W.Frag) : List V → Hp → VK → Prop := fun xs H Q => ∃ a dx, xs = [.ref a] ∧ DGood K H a dx ∧ Q (.int (dx.xs.length : Nat)) H
theorem call_lenN : CallR X (.builtin "len") (rLenN X.K) := by
  intro pins s σ H xs us Q I r h
  obtain ⟨a, dx, rfl, g, q⟩ := h
  obtain ⟨u, rfl, rx⟩ := vals1 r
  obtain rfl : u = Value.ref a := rx
  exact dn_len I g fun t s' I' => ⟨.int (dx.xs.length : Nat), H, I', ⟨t, rfl⟩, q⟩
theorem c_lenN : CallD X (.builtin "len") lenDct := ⟨_, call_lenN, fun S H vs ds c Q sub ha e k => by
  unfold lenDct at e
  split at e
  · cases e
    match vs, ha with
    | [_], .cons (.dct (a := a) (x := dx) h t z r) .nil =>
      refine ⟨a, dx, rfl, good_of (sub _ _ h) t z r sub, ?_⟩
      rw [t.len]
      exact k _ S H (Ext.refl sub) (.int _)
  · cases e⟩
def lenA : List D → Option D := fun ds => match lenD ds with | some c => some c | none => lenDct ds
theorem c_lenA : CallD X (.builtin "len") lenA := c_len.or c_lenN

/-! ### d.get(k, z) -/
def tDGetN (K : PySem.W.Frag) (td ty tx : TE) : TE := fun σ H Q => td σ H fun x H1 => ∃ a dx0, x = .ref a ∧ DGood K H1 a dx0 ∧ ty σ H1 fun y H2 => tx σ H2 fun z H3 => ∃ b dx k, y = .ref b ∧ DGood K H3 a dx ∧ KeyAt K H3 b k ∧ Q ((valX dx.xs k).getD z) H3
theorem pe_dgetN {apos cpos : Pos} (hu : X.A.units + 64 < cLine) (ho : PE X o td) (he : PE X e ty) (hf : PE X e2 tx) (m : M2 X o "get" apos e e2 cpos) : PE X (.Call (.Attribute o "get" apos) [e, e2] [] cpos) (tDGetN X.K td ty tx) := by
  refine ⟨fun pins s σ H Q I h => ?_⟩
  refine wpAny_Call_method m.base m.few m.line PySem.F.plainAttrs_dict PySem.F.slot_dict_get PySem.F.type_dict_get (thn (ho.run pins s σ H _ I h) fun u s1 ⟨x, H1, I1, rx, a, dx0, ex, g0, q1⟩ => ?_)
  subst ex
  obtain rfl : u = Value.ref a := rx
  refine ⟨g0.typeIs I1, g0.noDict I1, ?_⟩
  rw [m.trees]
  refine Calls.callWith_builtin rfl (Calls.evalArgs_plain (Calls.spliced_cons (thn (he.run pins s1 σ H1 _ I1 q1) fun iv s2 ⟨y, H2, I2, ry, q2⟩ =>
    Calls.spliced_cons (thn (hf.run pins s2 σ H2 _ I2 q2) fun fv s3 ⟨z, H3, I3, rz, b, dx, k, ey, g, hk, q3⟩ => Calls.spliced_nil ?_))))
  subst ey
  obtain rfl : iv = Value.ref b := ry
  exact dn_get2 hu I3 g hk rz fun w' s4 I4 rw' => ⟨_, H3, I4, rw', q3⟩
/-- d.get(k, z), d a dict that stands -/
def eDGet (f g h : Rho → Out (D × Rho)) : Rho → Out (D × Rho) := fun ρ => (f ρ).bind fun p => match p.1 with
  | .dct ds => (g p.2).bind fun q => (h q.2).bind fun r => (Out.of ((keyT q.1).map fun k => (valD ds k).getD r.1)).bind fun c => .ok (c, r.2)
  | _ => .stuck
theorem val_getD {K : PySem.W.Frag} {S : Hp} {a : Addr} {x : DX} {ds : List (NestedKey × D)} {k : NestedKey} {z : V} {d : D} (t : DTok a x ds) (r : AtL K S x.vs (dvs ds)) (hz : At K S z d) : At K S ((valX x.xs k).getD z) ((valD ds k).getD d) := by
  rcases val_at t r k with ⟨w, d', e1, e2, hat⟩ | ⟨e1, e2⟩
  · rw [e1, e2]; exact hat
  · rw [e1, e2]; exact hz
theorem ve_dget {apos cpos : Pos} (hu : X.A.units + 64 < cLine) (h1 : VE X W os e1 f1 os1 false) (h2 : VE X W os1 e2 f2 os2 false) (h3 : VE X W os2 e3 f3 os3 false)
    (m1 : attributeBase e1 "get" X.env (eval e1 X.env) = eval e1 X.env := by rfl) (m2 : ((backTo cpos (starEach [e2, e3] X.env)).all (fun x => !x.1) && (backToKw cpos (keywordEach [] X.env)).all (fun x => x.1.isSome)
    && decide (([e2, e3] : List Expr).length + ([] : List Keyword).length + (if ([] : List Keyword).isEmpty then 0 else 1) < 30)) = true := by rfl) (m3 : (apos.endLine == cpos.line) = true := by rfl) (m4 : backTo cpos (starEach [e2, e3] X.env) = [(false, eval e2 X.env), (false, eval e3 X.env)] := by rfl) :
    VE X W os (.Call (.Attribute e1 "get" apos) [e2, e3] [] cpos) (eDGet f1 f2 f3) os3 false := by
  obtain ⟨ta, pa, ka⟩ := h1
  obtain ⟨tb, pb, kb⟩ := h2
  obtain ⟨tc, pc, kc⟩ := h3
  refine ⟨_, pe_dgetN hu pa pb pc ⟨m1, m2, m3, m4⟩, fun S σ H ρ Q rel P => ?_⟩
  refine ka S σ H ρ _ rel (Post.seq P (fun z => z) (fun c fs p => p) fun d ρ1 v S1 H1 st1 rel1 q1 P1 => ?_)
  have P1 := P1.step RV.ok st1
  cases (show At X.K S1 v d from q1) with
  | @dct a x ds h t z r =>
    refine ⟨a, x, rfl, good_of (rel1.sub _ _ h) t z r rel1.sub, ?_⟩
    refine kb S1 σ H1 ρ1 _ rel1 (Post.seq P1 (fun z => z) (fun c fs p => p) fun d2 ρ2 v2 S2 H2 st2 rel2 q2 P2 => ?_)
    have P2 := P2.step RV.ok st2
    refine kc S2 σ H2 ρ2 _ rel2 (Post.seq P2 (fun z => z) (fun c fs p => p) fun d3 ρ3 v3 S3 H3 st3 rel3 q3 P3 => ?_)
    obtain ⟨c, hc, kk⟩ := post_of (P3.step RV.ok st3) rel3
    obtain ⟨k, hk, rfl⟩ := Option.map_eq_some_iff.mp hc
    have q2 : At X.K S3 v2 d2 := At.mono st3.ext.s q2
    obtain ⟨b, rfl, hb⟩ := at_key q2 hk
    have s13 : Same S1 S3 := st2.ext.s.trans st3.ext.s
    have r' := r.mono s13
    exact ⟨b, x, k, rfl, good_of (rel3.sub _ _ (s13 _ _ h)) t z r' rel3.sub, key_at q2 hk rel3.sub, kk _ S3 H3 (Ext.refl rel3.sub) (val_getD t r' q3)⟩
  | _ => exact P1.elim
/-- d.get(k, z), d an owning name -/
def eDGetO (i : Nat) (g h : Rho → Out (D × Rho)) : Rho → Out (D × Rho) := fun ρ => match ρ.getD i none with
  | some (.dct _) => (g ρ).bind fun q => (h q.2).bind fun r => (match r.2.getD i none with
    | some (.dct ds) => (Out.of ((keyT q.1).map fun k => (valD ds k).getD r.1)).bind fun c => .ok (c, r.2)
    | _ => .stuck)
  | _ => .stuck
theorem ve_dgetO {apos cpos : Pos} (hu : X.A.units + 64 < cLine) (i : Nat) {x : Str} (h2 : VE X W os e2 f2 os2 false) (h3 : VE X W os2 e3 f3 os3 false)
    (ho : os.getD i false = true := by rfl) (ho3 : os3.getD i false = true := by rfl) (hN : X.N[i]? = some x := by rfl) (hv : Vis X.env.scope x := by first | exact Or.inl rfl | exact Or.inr (Or.inl rfl) | exact Or.inr (Or.inr rfl)) (hd : (x == ("__debug__" : Str)) = false := by decide) (hcd : (x == ("__classdict__" : Str)) = false := by decide)
    (m1 : attributeBase (.Name x p) "get" X.env (eval (.Name x p) X.env) = eval (.Name x p) X.env := by rfl) (m2 : ((backTo cpos (starEach [e2, e3] X.env)).all (fun x => !x.1) && (backToKw cpos (keywordEach [] X.env)).all (fun x => x.1.isSome)
    && decide (([e2, e3] : List Expr).length + ([] : List Keyword).length + (if ([] : List Keyword).isEmpty then 0 else 1) < 30)) = true := by rfl) (m3 : (apos.endLine == cpos.line) = true := by rfl) (m4 : backTo cpos (starEach [e2, e3] X.env) = [(false, eval e2 X.env), (false, eval e3 X.env)] := by rfl) :
    VE X W os (.Call (.Attribute (.Name x p) "get" apos) [e2, e3] [] cpos) (eDGetO i f2 f3) os3 false := by
  obtain ⟨tb, pb, kb⟩ := h2
  obtain ⟨tc, pc, kc⟩ := h3
  refine ⟨_, pe_dgetN hu (pe_var hN hv hd hcd) pb pc ⟨m1, m2, m3, m4⟩, fun S σ H ρ Q rel P => ?_⟩
  unfold eDGetO at P
  cases h0 : ρ.getD i none with
  | none => rw [h0] at P; exact P.elim
  | some d0 =>
    rw [h0] at P
    obtain ⟨v, ev, hown⟩ := rel.own (getD_some h0) ho
    obtain ⟨a, ea, na, oo, eh, bd⟩ := hown
    subst ea
    refine ⟨.ref a, ev, ?_⟩
    cases bd with
    | @dct x0 ds0 t0 z0 r0 =>
      refine ⟨a, x0, rfl, good_of eh t0 z0 r0 rel.sub, ?_⟩
      refine kb S σ H ρ _ rel (Post.seq P (fun z => z) (fun c fs p => p) fun d2 ρ2 v2 S2 H2 st2 rel2 q2 P2 => ?_)
      have P2 := P2.step RV.ok st2
      refine kc S2 σ H2 ρ2 _ rel2 (Post.seq P2 (fun z => z) (fun c fs p => p) fun d3 ρ3 v3 S3 H3 st3 rel3 q3 P3 => ?_)
      have P3 := P3.step RV.ok st3
      dsimp only at P3
      cases h3 : ρ3.getD i none with
      | none => rw [h3] at P3; exact P3.elim
      | some d1 =>
        rw [h3] at P3
        obtain ⟨v', ev', hown⟩ := rel3.own (getD_some h3) ho3
        rw [ev] at ev'
        cases ev'
        obtain ⟨a', ea, na', oo, eh, bd⟩ := hown
        cases ea
        cases bd with
        | @dct x ds t z r =>
          have P3 : Post X W S3 H3 os3 σ os3 (RV X.K false) Q ((Out.of ((keyT d2).map fun k => (valD ds k).getD d3)).bind fun c => .ok (c, ρ3)) := P3
          obtain ⟨c, hc, kk⟩ := post_of P3 rel3
          obtain ⟨k, hk, rfl⟩ := Option.map_eq_some_iff.mp hc
          have q2 : At X.K S3 v2 d2 := At.mono st3.ext.s q2
          obtain ⟨b, rfl, hb⟩ := at_key q2 hk
          exact ⟨b, x, k, rfl, good_of eh t z r rel3.sub, key_at q2 hk rel3.sub, kk _ S3 H3 (Ext.refl rel3.sub) (val_getD t r q3)⟩
        | _ => exact P3.elim
    | _ => exact P.elim

/-! ### d.pop(k), d[k] = v, {} -/
def tDPopN (K : PySem.W.Frag) (td ty : TE) : TE := fun σ H Q => td σ H fun x H1 => ∃ a dx0, x = .ref a ∧ DGood K H1 a dx0 ∧ ty σ H1 fun y H2 => ∃ b dx k v, y = .ref b ∧ DGood K H2 a dx ∧ KeyAt K H2 b k ∧ valX dx.xs k = some v ∧ ∀ n, NewX a (dropX dx.xs k) n → Q v (upd H2 a (DT a n))
theorem pe_dpopN {apos cpos : Pos} (hu : X.A.units + 64 < cLine) (ho : PE X o td) (he : PE X e ty) (m : M1 X o "pop" apos e cpos) : PE X (.Call (.Attribute o "pop" apos) [e] [] cpos) (tDPopN X.K td ty) := by
  refine ⟨fun pins s σ H Q I h => ?_⟩
  refine wpAny_Call_method m.base m.few m.line PySem.F.plainAttrs_dict PySem.F.slot_dict_pop PySem.F.type_dict_pop (thn (ho.run pins s σ H _ I h) fun u s1 ⟨x, H1, I1, rx, a, dx0, ex, g0, q1⟩ => ?_)
  subst ex
  obtain rfl : u = Value.ref a := rx
  refine ⟨g0.typeIs I1, g0.noDict I1, ?_⟩
  rw [m.trees]
  refine Calls.callWith_builtin rfl (Calls.evalArgs_plain (Calls.spliced_cons (thn (he.run pins s1 σ H1 _ I1 q1) fun iv s2 ⟨y, H2, I2, ry, b, dx, k, v, ey, g, hk, l, q2⟩ => Calls.spliced_nil ?_)))
  subst ey
  obtain rfl : iv = Value.ref b := ry
  exact dn_pop hu I2 g hk l fun n w' s3 hn rw' I3 => ⟨v, _, I3, rw', q2 n hn⟩
def eDPop (i : Nat) (g : Rho → Out (D × Rho)) : Rho → Out (D × Rho) := fun ρ => match ρ.getD i none with
  | some (.dct _) => (g ρ).bind fun q => (match q.2.getD i none with
    | some (.dct ds) => (Out.of ((keyT q.1).bind fun k => (valD ds k).map fun c => (c, dropD ds k))).bind fun c => .ok (c.1, q.2.set i (some (.dct c.2)))
    | _ => .stuck)
  | _ => .stuck
theorem ve_dpop {apos cpos : Pos} (hu : X.A.units + 64 < cLine) (i : Nat) {x : Str} (h2 : VE X W os e2 f2 os2 false)
    (ho : os.getD i false = true := by rfl) (ho2 : os2.getD i false = true := by rfl) (hN : X.N[i]? = some x := by rfl) (hv : Vis X.env.scope x := by first | exact Or.inl rfl | exact Or.inr (Or.inl rfl) | exact Or.inr (Or.inr rfl)) (hd : (x == ("__debug__" : Str)) = false := by decide) (hcd : (x == ("__classdict__" : Str)) = false := by decide)
    (m1 : attributeBase (.Name x p) "pop" X.env (eval (.Name x p) X.env) = eval (.Name x p) X.env := by rfl) (m2 : ((backTo cpos (starEach [e2] X.env)).all (fun x => !x.1) && (backToKw cpos (keywordEach [] X.env)).all (fun x => x.1.isSome)
    && decide (([e2] : List Expr).length + ([] : List Keyword).length + (if ([] : List Keyword).isEmpty then 0 else 1) < 30)) = true := by rfl) (m3 : (apos.endLine == cpos.line) = true := by rfl) (m4 : backTo cpos (starEach [e2] X.env) = [(false, eval e2 X.env)] := by rfl) :
    VE X W os (.Call (.Attribute (.Name x p) "pop" apos) [e2] [] cpos) (eDPop i f2) os2 false := by
  obtain ⟨tb, pb, kb⟩ := h2
  refine ⟨_, pe_dpopN hu (pe_var hN hv hd hcd) pb ⟨m1, m2, m3, m4⟩, fun S σ H ρ Q rel P => ?_⟩
  unfold eDPop at P
  cases h0 : ρ.getD i none with
  | none => rw [h0] at P; exact P.elim
  | some d0 =>
    rw [h0] at P
    obtain ⟨v, ev, hown⟩ := rel.own (getD_some h0) ho
    obtain ⟨a, ea, na, oo, eh, bd⟩ := hown
    subst ea
    refine ⟨.ref a, ev, ?_⟩
    cases bd with
    | @dct x0 ds0 t0 z0 r0 =>
      refine ⟨a, x0, rfl, good_of eh t0 z0 r0 rel.sub, ?_⟩
      refine kb S σ H ρ _ rel (Post.seq P (fun z => z) (fun c fs p => p) fun d2 ρ2 v2 S2 H2 st2 rel2 q2 P2 => ?_)
      have P2 := P2.step RV.ok st2
      dsimp only at P2
      cases h2 : ρ2.getD i none with
      | none => rw [h2] at P2; exact P2.elim
      | some d1 =>
        rw [h2] at P2
        obtain ⟨v', ev', hown⟩ := rel2.own (getD_some h2) ho2
        rw [ev] at ev'
        cases ev'
        obtain ⟨a', ea, na', oo, eh, bd⟩ := hown
        cases ea
        cases bd with
        | @dct x ds t z r =>
          have P2 : Post X W S2 H2 os2 σ os2 (RV X.K false) Q ((Out.of ((keyT d2).bind fun k => (valD ds k).map fun c => (c, dropD ds k))).bind fun c => .ok (c.1, ρ2.set i (some (.dct c.2)))) := P2
          cases hk : keyT d2 with
          | none => rw [hk] at P2; exact P2.elim
          | some k =>
            rw [hk] at P2
            have q2 : At X.K S2 v2 d2 := q2
            obtain ⟨b, rfl, hb⟩ := at_key q2 hk
            rcases val_at t r k with ⟨w, d, e1, e2, hat⟩ | ⟨_, e2⟩
            · have P2 : Post X W S2 H2 os2 σ os2 (RV X.K false) Q ((Out.of ((valD ds k).map fun c => (c, dropD ds k))).bind fun c => .ok (c.1, ρ2.set i (some (.dct c.2)))) := P2
              rw [e2] at P2
              refine ⟨b, x, k, w, rfl, good_of eh t z r rel2.sub, key_at q2 hk rel2.sub, e1, fun n hn => ?_⟩
              obtain ⟨t', r'⟩ := hn.tok ((t.xd r).drop k) (drop_kk t.kk)
              obtain ⟨rel3, st3⟩ := turnX rel2 ho2 ev na' (Nat.le_trans (dropD_len ds k) z) t' r'
              exact P2 w S2 _ st3 rel3 hat
            · have P2 : Post X W S2 H2 os2 σ os2 (RV X.K false) Q ((Out.of ((valD ds k).map fun c => (c, dropD ds k))).bind fun c => .ok (c.1, ρ2.set i (some (.dct c.2)))) := P2
              rw [e2] at P2
              exact P2.elim
        | _ => exact P2.elim
    | _ => exact P.elim
/-- {} -/
def tDNewN : TE := fun _ H Q => ∀ p y, H p = none → NewX p [] y → Q (.ref p) (upd H p (DT p y))
theorem pe_dnewN : PE X (.Dict [] [] pos) tDNewN := ⟨fun pins s σ H Q I h => by
  have ho : (s.heap.push { cls := .type "dict", data := .dict #[] }).get? s.heap.objs.size = some { cls := .type "dict", data := .dict #[] } := Heap.get?_push_size _ rfl
  refine wpAny_Dict_empty ⟨.ref s.heap.objs.size, _, I.laid (a := s.heap.objs.size) (o := DT s.heap.objs.size ⟨{ cls := .type "dict", data := .dict #[] }, []⟩) (t' := s.toks) (fun _ _ q => Heap.get?_push_of_some _ q) (Nat.le_refl _) (dt_ok ho), rfl, h _ _ (I.hok.fresh (Nat.le_refl _)) ?_⟩
  exact ⟨rfl, beq_eq_false_iff_ne.mpr (Ne.symm (Nat.ne_of_lt I.big)), ⟨rfl, rfl, rfl⟩, List.nodup_nil, #[], 0, rfl, .nil⟩⟩
def eDNew : Rho → Out (D × Rho) := fun ρ => .ok (.dct [], ρ)
theorem OwnAt.mkX {K : PySem.W.Frag} {S H : Hp} {a : Addr} {y : DX} {ds : List (NestedKey × D)} (n : S a = none) (h : H a = some (DT a y)) (t : DTok a y ds) (z : ds.length ≤ sizeLine) (r : AtL K S y.vs (dvs ds)) : OwnAt K S H (.ref a) (.dct ds) := ⟨a, rfl, n, _, h, .dct t z r⟩
theorem ve_dnew : VE X W os (.Dict [] [] pos) eDNew os true := ⟨_, pe_dnewN, fun S σ H ρ Q rel P p y np hn => by
  have xx := Ext.newO (O := fun _ => False) (o := DT p y) rel.sub np
  obtain ⟨t, r⟩ := hn.tok (K := X.K) (S := S) (ds := []) .nil fun p hp => by cases hp
  exact P (.ref p) S _ (Stp.of_ext xx) (rel.ext0 xx) ⟨.mkX (rel.sub.free np) upd_same t (Nat.zero_le _) r, fun a e => by cases e; exact np⟩⟩

def sDPutN (K : PySem.W.Frag) (td ty tv : TE) : TS := fun Ds σ H => tv σ H fun v H1 => td σ H1 fun x H2 => ty σ H2 fun y H3 => ∃ a b dx k, x = .ref a ∧ y = .ref b ∧ DGood K H3 a dx ∧ KeyAt K H3 b k ∧ ∀ n, NewX a (storeX dx.xs k b v) n → Ds.nx σ (upd H3 a (DT a n))
theorem ps_dputN {value : Expr} {pos' : Pos} {tv : TE} (hu : X.A.units + 64 < cLine) (ho : PE X o td) (hi : PE X i ty) (hv : PE X value tv) (hs : swapsWith value (some (.Subscript o i pos')) pos.line X.env = pure false) :
    PS X (.Assign [.Subscript o i pos'] value pos) (sDPutN X.K td ty tv) := by
  refine ⟨fun pins s σ H D I h => ?_⟩
  refine wpAny_Assign_Subscript (thn (hv.run pins s σ H _ I h) fun r s1 ⟨v, H1, I1, rv, q1⟩ => thn (ho.run pins s1 σ H1 _ I1 q1) fun u s2 ⟨x, H2, I2, rx, q2⟩ => thn (hi.run pins s2 σ H2 _ I2 q2) fun iv s3 ⟨y, H3, I3, ry, a, b, dx, k, ex, ey, g, hk, q3⟩ => ?_) hs
  subst ex ey
  obtain rfl : u = Value.ref a := rx
  obtain rfl : iv = Value.ref b := ry
  exact dn_setItem hu I3 g hk rv fun n s4 hn I4 => ⟨σ, _, I4, q3 n hn⟩
theorem ps_or {st : Stmt} {t1 t2 : TS} (h1 : PS X st t1) (h2 : PS X st t2) : PS X st (fun D σ H => t1 D σ H ∨ t2 D σ H) := ⟨fun pins s σ H D I q => q.elim (h1.run pins s σ H D I) (h2.run pins s σ H D I)⟩
/-- x[fi] = f, x an owning name: a list or a dict -/
def sSetA (i : Nat) (f fi : Rho → Out (D × Rho)) : Rho → Out Fl := fun ρ => match ρ.getD i none with
  | some (.dct _) => (f ρ).bind fun p => (match p.2.getD i none with
    | some (.dct _) => (fi p.2).bind fun q => (match q.2.getD i none with
      | some (.dct ds) => (Out.of ((keyT q.1).bind fun k => if ds.length < sizeLine then some (putD ds k p.1) else none)).bind fun c => .ok (.nx (q.2.set i (some (.dct c))))
      | _ => .stuck)
    | _ => .stuck)
  | _ => sSetIx i f fi ρ
theorem vs_setA (hu : X.A.units + 64 < cLine) (i : Nat) {x : Str} {px ps : Pos} {ie : Expr} {fi : Rho → Out (D × Rho)} (hv : VE X W os e f os1 false) (hi : VE X W os1 ie fi os2 false) (ho : os.getD i false = true := by rfl) (ho1 : os1.getD i false = true := by rfl) (ho2 : os2.getD i false = true := by rfl) (hN : X.N[i]? = some x := by rfl)
    (hvis : Vis X.env.scope x := by first | exact Or.inl rfl | exact Or.inr (Or.inl rfl) | exact Or.inr (Or.inr rfl)) (hd : (x == ("__debug__" : Str)) = false := by decide) (hcd : (x == ("__classdict__" : Str)) = false := by decide)
    (ha : ∀ v, assign (.Subscript (.Name x px) ie ps) X.env v = (do
      let ov ← holding [v] (eval (.Name x px) X.env)
      let iv ← holding [v, ov] (eval ie X.env)
      standAt ps
      holding [v, ov, iv] (setItem ov iv v)
      release [v, ov, iv] []) := by intro _; rfl) (hs : swapsWithSole [.Subscript (.Name x px) ie ps] e pos.line X.env = pure false := by rfl) (hw : swappedStores [.Subscript (.Name x px) ie ps] e X.env = pure none := by rfl)
    (h1 : (assignEach [.Subscript (.Name x px) ie ps] X.env).map (·.2) = [assign (.Subscript (.Name x px) ie ps) X.env] := by rfl) (hs2 : swapsWith e (some (.Subscript (.Name x px) ie ps)) pos.line X.env = pure false := by rfl) :
    VS X W L os (.Assign [.Subscript (.Name x px) ie ps] e pos) (sSetA i f fi) os2 := by
  obtain ⟨t0, p0, k0⟩ : VS X W L os (.Assign [.Subscript (.Name x px) ie ps] e pos) (sSetIx i f fi) os2 := vs_setIx i hv hi ho1 ho2 hN hvis hd hcd ha hs hw h1
  obtain ⟨t, pt, kt⟩ := hv
  obtain ⟨ti, pi, ki⟩ := hi
  refine ⟨_, ps_or p0 (ps_dputN hu (pe_var hN hvis hd hcd) pi pt hs2), fun S σ H ρ Ds rel P => ?_⟩
  by_cases hdd : ∃ ds, ρ.getD i none = some (.dct ds)
  · obtain ⟨ds0, h0⟩ := hdd
    unfold sSetA at P
    rw [h0] at P
    refine .inr ?_
    refine kt S σ H ρ _ rel (PostS.seqE P fun d ρ1 v S1 H1 s1 r1 q1 P1 => ?_)
    dsimp only at P1
    cases hx : ρ1.getD i none with
    | none => rw [hx] at P1; exact P1.elim
    | some d1 =>
      rw [hx] at P1
      obtain ⟨u, eu, _⟩ := r1.own (getD_some hx) ho1
      refine ⟨u, eu, ?_⟩
      have P1 : PostS X W L S1 H1 os1 σ os2 Ds ((fi ρ1).bind fun q => (match q.2.getD i none with
        | some (.dct ds) => (Out.of ((keyT q.1).bind fun k => if ds.length < sizeLine then some (putD ds k d) else none)).bind fun c => .ok (.nx (q.2.set i (some (.dct c))))
        | _ => .stuck)) := by
        cases d1 <;> first | exact P1 | exact P1.elim
      refine ki S1 σ H1 ρ1 _ r1 (PostS.seqE P1 fun d2 ρ2 v2 S2 H2 s2 r2 q2 P2 => ?_)
      dsimp only at P2
      cases hx2 : ρ2.getD i none with
      | none => rw [hx2] at P2; exact P2.elim
      | some d3 =>
        rw [hx2] at P2
        obtain ⟨u', eu', hown⟩ := r2.own (getD_some hx2) ho2
        rw [eu] at eu'
        cases eu'
        obtain ⟨a, ea, na, oo, eh, bd⟩ := hown
        subst ea
        cases bd with
        | @dct x ds t z r =>
          have P2 : PostS X W L S2 H2 os2 σ os2 Ds ((Out.of ((keyT d2).bind fun k => if ds.length < sizeLine then some (putD ds k d) else none)).bind fun c => .ok (.nx (ρ2.set i (some (.dct c))))) := P2
          cases hk : keyT d2 with
          | none => rw [hk] at P2; exact P2.elim
          | some k =>
            rw [hk] at P2
            have q2 : At X.K S2 v2 d2 := q2
            obtain ⟨b, rfl, hb⟩ := at_key q2 hk
            by_cases hz : ds.length < sizeLine
            · have P2 : PostS X W L S2 H2 os2 σ os2 Ds ((Out.of (if ds.length < sizeLine then some (putD ds k d) else none)).bind fun c => .ok (.nx (ρ2.set i (some (.dct c))))) := P2
              rw [if_pos hz] at P2
              refine ⟨a, b, x, k, rfl, rfl, good_of eh t z r r2.sub, key_at q2 hk r2.sub, fun n hn => ?_⟩
              obtain ⟨t', r'⟩ := hn.tok ((t.xd r).store hb (At.mono s2.ext.s (show At X.K S1 v d from q1))) (store_kk t.kk hk)
              obtain ⟨r3, st3⟩ := turnX r2 ho2 eu na (by have := putD_len ds k d; omega) t' r'
              exact P2 σ S2 _ st3 FixOn.refl r3
            · have P2 : PostS X W L S2 H2 os2 σ os2 Ds ((Out.of (if ds.length < sizeLine then some (putD ds k d) else none)).bind fun c => .ok (.nx (ρ2.set i (some (.dct c))))) := P2
              rw [if_neg hz] at P2
              exact P2.elim
        | _ => exact P2.elim
  · refine .inl (k0 S σ H ρ Ds rel ?_)
    have e : sSetA i f fi ρ = sSetIx i f fi ρ := by
      unfold sSetA
      split
      · rename_i ds h; exact (hdd ⟨ds, h⟩).elim
      · rfl
    rw [← e]
    exact P

/-! ### for x in d -/
/-- the dict's object at a, walked by its keys -/
def Itkn (K : PySem.W.Frag) (a : Addr) (x : DX) : It :=
  ⟨fun i H => DGood K H a x ∧ i < x.xs.length, fun i H v H' => H' = H ∧ ∃ p, x.xs[i]? = some p ∧ v = .ref p.2.1, fun i H => DGood K H a x ∧ x.xs.length ≤ i⟩
theorem EnL.get {es : List DictEntry} {xs : XL} (h : EnL es xs) {i : Nat} {p : NestedKey × Addr × V} (e : xs[i]? = some p) : ∃ en, es[i]? = some en ∧ en.key = .ref p.2.1 ∧ RelV p.2.2 en.val := by
  induction h generalizing i with
  | nil => simp at e
  | @cons a b as bs h t ih =>
    cases i with
    | zero => cases (show some b = some p by simpa using e); exact ⟨a, rfl, h.2.1, h.2.2⟩
    | succ j => simpa using ih (i := j) (by simpa using e)
theorem turn_keysN {P : Program} {w : World} {K : PySem.W.Frag} {tg : Expr} {a : Addr} {x : DX} {es : Array DictEntry} {ep : Nat} (it : Addr) (hod : x.o.data = .dict es ep) : Turn P w K tg (Itkn K a x) [it] it (fun i h => h.IsKeyIter it a i x.xs.length ep) where
  mem := by simp
  obj := fun i h st b hb => by
    have e : b = it := by simpa using hb
    subst e
    obtain ⟨oi, e, c, dd⟩ := st
    exact ⟨oi, e, fun v z => by rw [dd] at z; cases z⟩
  keep := fun i h h' st k => st.at fun oi e => k it (by simp) oi e
  item := by
    intro X hP hw hK hc i pins s σ H E I hf st hg
    subst hP hw hK
    obtain ⟨g, hi⟩ := hg
    obtain ⟨f0, f1, f2, f3, f4, f5⟩ := hf it (by simp)
    obtain ⟨ys, _, _, _, ho⟩ := g.dict I
    obtain ⟨es', ep', hdt, en⟩ := g.ens
    obtain ⟨rfl, rfl⟩ := dict_ep hod hdt
    have hsz : es'.size = x.xs.length := by rw [← Paired.length en, Array.length_toList]
    obtain ⟨en', hen, hkey, _⟩ := en.get (List.getElem?_eq_getElem hi)
    refine next_key_item st ho hdt hsz (by rw [← Array.getElem?_toList]; exact hen) fun h' st' sb => ?_
    have I1 : Inv X pins σ H { s with heap := h' } := I.turned (t' := s.toks) (fun b ob hb e => (sb.2 b hb).trans e) f0 f1 f3 f4 f5
    obtain ⟨oi, e, c, dd⟩ := id st'
    exact ⟨en'.key, rfl, go_of (s := { s with heap := h' }) e c dd (by decide) ⟨.ref (x.xs[i]).2.1, H, I1, hkey, ⟨rfl, _, List.getElem?_eq_getElem hi, rfl⟩, st', fun b hb => (hf b hb).1⟩⟩
  done := by
    intro X hP hw hK hc i pins s σ H E I hf st hg
    subst hP hw hK
    obtain ⟨g, hi⟩ := hg
    obtain ⟨f0, f1, f2, f3, f4, f5⟩ := hf it (by simp)
    obtain ⟨ys, _, _, _, ho⟩ := g.dict I
    obtain ⟨es', ep', hdt, en⟩ := g.ens
    obtain ⟨rfl, rfl⟩ := dict_ep hod hdt
    have hsz : es'.size = x.xs.length := by rw [← Paired.length en, Array.length_toList]
    exact next_key_end (I.ok.hd hc) st ho hdt hsz hi fun h' eb => ⟨rfl, I.turned (t' := s.toks) (fun b ob hb e => eb b ob hb e) f0 f1 f3 f4 f5⟩
  self := fun A i s Q E st h => by
    refine wpAny_pyIter_slot st.typeIs F.slot_dict_keyiterator_iter (wpAny_call_entry F.slot_dict_keyiterator_iter st.typeIs F.entry_dict_keyiterator_iter ?_ (F.args_dict_keyiterator_iter_1 _))
    show wpAny _ _ (ret (.ref it)) _ _ s
    exact wpAny_pure ⟨_, rfl, "dict_keyiterator", _, st.typeIs, F.slot_dict_keyiterator_next.lookup, h⟩
def iKeysN (K : PySem.W.Frag) (td : TE) : TI := fun σ H R => td σ H fun v H1 => ∃ a x, v = .ref a ∧ DGood K H1 a x ∧ R (Itkn K a x) H1
theorem pi_keysN {tg : Expr} (he : PE X e td) : PI X tg e (iKeysN X.K td) := by
  refine ⟨fun pins s σ H R I h => ?_⟩
  refine thn (he.run pins s σ H _ I h) fun u s1 ⟨v, H1, I1, rx, a, x, ex, g, q⟩ => ?_
  subst ex
  obtain rfl : u = Value.ref a := rx
  obtain ⟨ys, _, _, _, ho⟩ := g.dict I1
  obtain ⟨es, ep, hdt, en⟩ := g.ens
  have hsz : es.size = x.xs.length := by rw [← Paired.length en, Array.length_toList]
  refine iter_keys g.sys ho g.ex hdt (pi_one (tk := s1.toks) I1 _ (turn_keysN _ hdt) ⟨_, Heap.get?_push_size _ rfl, rfl, ?_⟩ q)
  rw [hsz] <;> rfl
def itemsA : D → Option (List D)
  | .dct ds => some (ds.map fun p => keyB p.1)
  | d => itemsOf d
theorem itemsA_ne {d : D} (h : ∀ ds, d ≠ .dct ds) : itemsA d = itemsOf d := by
  cases d <;> first | rfl | exact (h _ rfl).elim
def iSeqA (f : Rho → Out (D × Rho)) : Rho → Out (List D × Rho) := fun ρ => (f ρ).bind fun p => (Out.of (itemsA p.1)).bind fun c => .ok (c, p.2)
theorem itAt_keys {K : PySem.W.Frag} {S : Hp} {a : Addr} {x : DX} {ds : List (NestedKey × D)} (h : S a = some (DT a x)) (t : DTok a x ds) (z : ds.length ≤ sizeLine) (r : AtL K S x.vs (dvs ds)) : ItAt K S (Itkn K a x) (ds.map fun p => keyB p.1) := by
  refine ⟨by rw [List.length_map]; exact z, fun i S' H' s1 s2 => ?_⟩
  have g : DGood K H' a x := good_of (s2 _ _ (s1 _ _ h)) t z (r.mono s1) s2
  refine ⟨fun hi => ⟨g, by rw [t.len]; rw [List.length_map] at hi; exact hi⟩, fun d hd => ?_⟩
  obtain ⟨r1, _⟩ := dct_split t r
  have hi : i < x.xs.length := by
    have := (List.getElem?_eq_some_iff.mp hd).1
    rw [List.length_map] at this
    rw [t.len]; exact this
  obtain ⟨v, ev, hat⟩ := r1.get hd
  refine ⟨⟨g, hi⟩, fun u H2 y => ?_⟩
  obtain ⟨rfl, p, ep, rfl⟩ := y
  rw [List.getElem?_map, ep] at ev
  cases ev
  exact ⟨S', Ext.refl s2, hat.mono s1⟩
theorem vi_seqA {tg : Expr} (he : VE X W os e f os1 false) : VI X W os tg e (iSeqA f) os1 := by
  obtain ⟨w0, p0, k0⟩ : VI X W os tg e (iSeq f) os1 := vi_seq he
  obtain ⟨t, pt, kt⟩ := he
  refine ⟨_, pi_or p0 (pi_keysN pt), fun S σ H ρ R rel P => ?_⟩
  by_cases hd : ∃ ds ρ1, f ρ = .ok (.dct ds, ρ1)
  · obtain ⟨ds, ρ1, hf⟩ := hd
    refine .inr (kt S σ H ρ _ rel ?_)
    unfold iSeqA at P
    rw [hf] at P ⊢
    intro v S1 H1 st1 rel1 q1
    cases (show At X.K S1 v (.dct ds) from q1) with
    | @dct a x _ h t z r => exact ⟨a, x, rfl, good_of (rel1.sub _ _ h) t z r rel1.sub, P _ S1 H1 st1 rel1 (itAt_keys h t z r)⟩
  · refine .inl (k0 S σ H ρ R rel ?_)
    have e : iSeqA f ρ = iSeq f ρ := by
      unfold iSeqA iSeq
      cases hf : f ρ with
      | ok z =>
        obtain ⟨d, ρ1⟩ := z
        show ((Out.of (itemsA d)).bind fun c => .ok (c, ρ1)) = (Out.of (itemsOf d)).bind fun c => .ok (c, ρ1)
        rw [itemsA_ne fun ds z => hd ⟨ds, ρ1, by rw [hf, z]⟩]
      | exc c fs => rfl
      | stuck => rfl
    rw [← e]
    exact P
end
end SW

set_option maxRecDepth 100000
/-! SW18: sorted, by a key too; of lists, tuples, dicts. -/
namespace SW
open PySem PySem.Spec PyProof.Rows L2
open PySem.W (EachIs dataLe AllAlike Sortable alike)

section
variable {X : Cx} {pins : List (Addr × Obj)} {σ : L2.St} {S H : Hp} {s : Shared} {E : Value → Shared → Prop}
theorem each_of_at (I : Inv X pins σ H s) (sub : Same S H) : ∀ {vs : List V} {ds : List D} {us : List Value} {ps : List PyData}, AtL X.K S vs ds → Vals vs us → ds.map D.py = ps.map some → EachIs (fun v p => ∃ as, Reads s.heap v p as) us ps
  | _, _, _, [], .nil, .nil, _ => .nil
  | _, _, _, _ :: _, .nil, .nil, e => by simp at e
  | _, _, _, [], .cons _ _, .cons _ _, e => by simp at e
  | _, _, _, p :: ps, .cons h t, .cons r rs, e => by
    rw [List.map_cons, List.map_cons] at e
    injection e with e1 e2
    exact .cons (Dp.reads I _ _ _ ((h.mono sub).dp e1) r) (each_of_at I sub t rs e2)
/-- a value that stands for a datum -/
def VAt (K : PySem.W.Frag) (S : Hp) (u : Value) (d : D) : Prop := ∃ v, RelV v u ∧ At K S v d
theorem each_at {K : PySem.W.Frag} {S : Hp} : ∀ {vs : List V} {ds : List D} {us : List Value}, AtL K S vs ds → Vals vs us → EachIs (VAt K S) us ds
  | _, _, _, .nil, .nil => .nil
  | _, _, _, .cons h t, .cons r rs => .cons ⟨_, r, h⟩ (each_at t rs)
theorem at_each {K : PySem.W.Frag} {S : Hp} {us : List Value} {ds : List D} (h : EachIs (VAt K S) us ds) : ∃ vs, Vals vs us ∧ AtL K S vs ds := by
  induction h with
  | nil => exact ⟨[], .nil, .nil⟩
  | cons q _ ih =>
    obtain ⟨v, r, a⟩ := q
    obtain ⟨vs, rs, as⟩ := ih
    exact ⟨v :: vs, .cons r rs, .cons a as⟩

/-- the key's call -/
theorem run_key {P : Value → Shared → Prop} {k : Nat} {fa : Addr} {fd : FuncData} {ps : List Str} {m : List D → Out (D × D)} (F : FnOk X.prog X.w X.K X.mg X.base (L2.CX X.prog X.w) k fa fd ps (spec X.K X.mg 1 none false m)) (hr : Room (k + 2) X.A) (hb : Binds X.K fd ps [])
    (I : Inv X pins σ H s) (sub : Same S H) {x : V} {u : Value} {d kd o : D} (hat : At X.K S x d) (rx : RelV x u) (hm : m [d] = .ok (kd, o))
    (fin : ∀ v S' H' u' s', Ext (fun _ => False) S H S' H' → At X.K S' v kd → RelV v u' → Inv X pins σ H' s' → Un (frs X.stack) [] H H' s.heap s'.heap → P u' s') : wpAny (model X.prog X.w) X.A.in1.in1 (call (.ref fa) [u]) P E s := by
  have r2 : Vals [x] [u] := .cons rx .nil
  have sp : spec X.K X.mg 1 none false m [x] H (fun v H' => ∃ S', Ext (fun _ => False) S H S' H' ∧ At X.K S' v kd) (fun _ _ _ => False) := by
    refine ⟨rfl, S, [d], rel_args (.cons hat .nil) sub, ?_⟩
    rw [hm]
    exact fun v S' H' x q _ => ⟨S', x.weak fun _ z => own_nil z, q⟩
  refine wpAny_call (codeAny_mono (F.run X.A.in1.in1 X.stack s H ⟨[u], []⟩ ([u] ++ []) [x] _ _ hr.in1.in1 I.env0.in1.in1 (hb s [u] I.kIn (by rw [← F.len _ _ _ _ sp]; rfl)) r2 sp) fun r s' hq => ?_)
  cases r with
  | error e =>
    obtain ⟨_, _, _, _, _, _, _, _, _, _, _, _, z⟩ := hq
    exact z.elim
  | ok fl =>
    cases fl with
    | ret u' =>
      obtain ⟨v, H', os, bare, un, hok, r, S', x, q⟩ := hq
      exact fin v S' H' u' s' x q r (I.call' os un hok bare fun b z => absurd z (by simp)) un
    | _ => exact hq.elim
end

/-! ### the keys of items -/
def keysOf (m : List D → Out (D × D)) : List D → Option (List (D × PyData))
  | [] => some []
  | d :: ds => match m [d] with
    | .ok (kd, _) => (match kd.py, keysOf m ds with
      | some p, some ps => some ((kd, p) :: ps)
      | _, _ => none)
    | _ => none
def sortableB (ps : List PyData) : Bool := ps.all (fun p => match p with | .tuple (_ :: _) => true | _ => false) || ps.all fun p => match p with | .none => false | .tuple _ => false | _ => true
def keysOk (ps : List PyData) : Bool := ps.all (fun p => ps.all fun q => alike p q) && sortableB ps && ps.all fun p => decide (p.depth ≤ 40)
theorem keysOk_iff {ps : List PyData} (h : keysOk ps = true) : AllAlike ps ∧ Sortable ps ∧ ∀ p ∈ ps, p.depth ≤ 40 := by
  unfold keysOk at h
  rw [Bool.and_eq_true, Bool.and_eq_true] at h
  obtain ⟨⟨h1, h2⟩, h3⟩ := h
  refine ⟨fun d hd d' hd' => List.all_eq_true.mp (List.all_eq_true.mp h1 d hd) d' hd', ?_, fun p hp => of_decide_eq_true (List.all_eq_true.mp h3 p hp)⟩
  unfold sortableB at h2
  rcases Bool.or_eq_true_iff.mp h2 with h | h
  · refine .inl fun d hd => ?_
    have q := List.all_eq_true.mp h d hd
    split at q
    · exact ⟨_, _, rfl⟩
    · cases q
  · refine .inr fun d hd => ?_
    have q := List.all_eq_true.mp h d hd
    split at q
    · cases q
    · cases q
    · rename_i h1 h2
      exact ⟨h1, fun xs => h2 xs⟩
/-- a datum's key -/
def keyFn (m : List D → Out (D × D)) (d : D) : PyData := match m [d] with
  | .ok (kd, _) => (match kd.py with | some p => p | none => .none)
  | _ => .none
theorem keysOf_some {m : List D → Out (D × D)} : ∀ {ds : List D} {ks : List (D × PyData)}, keysOf m ds = some ks → ks.length = ds.length ∧ ks.map (·.2) = ds.map (keyFn m) ∧ ∀ (j : Nat) (d : D), ds[j]? = some d → ∃ kd o p, m [d] = .ok (kd, o) ∧ kd.py = some p ∧ ks[j]? = some (kd, p)
  | [], _, e => by cases e; exact ⟨rfl, rfl, fun j d h => by simp at h⟩
  | d :: ds, ks, e => by
    unfold keysOf at e
    cases hm : m [d] with
    | ok z =>
      obtain ⟨kd, o⟩ := z
      rw [hm] at e
      dsimp only at e
      cases hp : kd.py with
      | none => rw [hp] at e; cases e
      | some p =>
        cases hk : keysOf m ds with
        | none => rw [hp, hk] at e; cases e
        | some ps =>
          rw [hp, hk] at e
          cases e
          obtain ⟨h1, h2, h3⟩ := keysOf_some hk
          refine ⟨by rw [List.length_cons, List.length_cons, h1], ?_, fun j d' hd => ?_⟩
          · rw [List.map_cons, List.map_cons, h2]
            congr 1
            unfold keyFn
            rw [hm]
            dsimp only
            rw [hp]
          · cases j with
            | zero => cases (show some d = some d' by simpa using hd); exact ⟨kd, o, p, hm, hp, rfl⟩
            | succ j => simpa using h3 j d' (by simpa using hd)
    | exc c fs => rw [hm] at e; cases e
    | stuck => rw [hm] at e; cases e
/-- sorted by a key -/
def sortK (m : List D → Out (D × D)) (ds : List D) : Option (List D) := match keysOf m ds with
  | some ks => if keysOk (ks.map (·.2)) = true then some (ds.mergeSort (dataLe false (keyFn m))) else none
  | none => none

section
variable {X : Cx} {pins : List (Addr × Obj)} {σ : L2.St} {S H : Hp} {s : Shared} {E : Value → Shared → Prop} {vsV : List V} {vs : List Value} {ds : List D} {ks : List (D × PyData)} {a kS : Addr} {e1 : Nat}
  {k : Nat} {fa : Addr} {fd : FuncData} {ps : List Str} {m : List D → Out (D × D)}
/-- where the sort leaves off -/
def SortEnd (X : Cx) (pins : List (Addr × Obj)) (σ : L2.St) (S H : Hp) (a : Addr) (out : List D) (s' : Shared) : Prop := ∃ S' H' ys, Inv X pins σ (upd H' a (.lst ys)) s' ∧ Ext (fun _ => False) S H S' H' ∧ H' a = none ∧ AtL X.K S' ys out
theorem loop_keys (F : FnOk X.prog X.w X.K X.mg X.base (L2.CX X.prog X.w) k fa fd ps (spec X.K X.mg 1 none false m)) (hr : Room (k + 2) X.A) (hb : Binds X.K fd ps []) (hks : keysOf m ds = some ks) (hok : keysOk (ks.map (·.2)) = true)
    (I : Inv X pins σ H s) (sub : Same S H) (hat : AtL X.K S vsV ds) (rv : Vals vsV vs) (hz : ds.length ≤ sizeLine) (fk : FpOk X pins H kS) (fp : FpOk X pins H a) (hka : kS ≠ a)
    (nk : s.heap.get? kS = some (seqObj "list" #[] 0)) (na : s.heap.get? a = some (seqObj "list" #[] e1)) :
    wpAny (model X.prog X.w) X.A.in1.in1 (ksk_rest a (.ref fa) false vs.toArray e1 (.ref kS)) (fun fn s' => fn = .done (.ret .none) ∧ SortEnd X pins σ S H a (ds.mergeSort (dataLe false (keyFn m))) s') E s := by
  obtain ⟨lk, mk, gk⟩ := keysOf_some hks
  obtain ⟨hal, hso, hdp⟩ := keysOk_iff hok
  have lv : vs.length = ds.length := by rw [← rv.length, hat.length]
  have upF : ∀ {b : Addr} {H' : Hp}, FpOk X pins H b → H' b = none → FpOk X pins H' b := fun {b H'} f n => ⟨n, f.2⟩
  unfold ksk_rest
  refine wpAny_bind (wpAny_rule ?_)
  first
    | rw [List.forIn_toArray]
    | rw [← Array.forIn_toList]
  refine wpAny_bind (PyProof.Rows.ksk_fold (fun j s' => ∃ S' H' kA c kV, Inv X pins σ H' s' ∧ Ext (fun _ => False) S H S' H' ∧ s'.heap.get? kS = some (seqObj "list" kA c) ∧ s'.heap.get? a = some (seqObj "list" #[] e1) ∧ H' kS = none ∧ H' a = none ∧ Vals kV kA.toList ∧ AtL X.K S' kV ((ks.take j).map (·.1))) vs 0 s
    ⟨S, H, #[], 0, [], I, Ext.refl sub, nk, na, fk.1, fp.1, .nil, by rw [List.take_zero]; exact .nil⟩ ?turn ?last)
  case turn =>
    rintro j u s' hu ⟨S', H', kA, c, kV, I', x', nk', na', nkH, naH, rk, ak⟩
    rw [Nat.zero_add] at ak ⊢
    have hj : j < ds.length := by
      have q := (List.getElem?_eq_some_iff.mp hu).1
      omega
    obtain ⟨kd, o, p, hm, hp, hkj⟩ := gk j _ (List.getElem?_eq_getElem hj)
    obtain ⟨v, ev, hv⟩ := hat.get (List.getElem?_eq_getElem hj)
    obtain ⟨u', eu', ru⟩ := rv.get ev
    rw [hu] at eu'
    cases eu'
    have hsz : kA.size ≤ ds.length := by
      have q1 : kV.length = kA.size := (L2.Vals.length rk).trans Array.length_toList
      have q2 : kV.length = min j ks.length := (AtL.length ak).trans (by rw [List.length_map, List.length_take])
      have q3 := Nat.min_le_right j ks.length
      omega
    refine wpAny_bind (wpAny_attempt (wpAny_mono (run_key (E := fun _ _ => False) F hr hb I' x'.sh (hv.mono x'.s) ru hm fun v2 S2 H2 u2 s2 x2 q2 r2 I2 un => (show ∃ S2 H2 v2, Inv X pins σ H2 s2 ∧ Ext (fun _ => False) S' H' S2 H2 ∧ At X.K S2 v2 kd ∧ RelV v2 u2 ∧ Un (frs X.stack) [] H' H2 s'.heap s2.heap from ⟨S2, H2, v2, I2, x2, q2, r2, un⟩)) (fun u2 s2 q => ?_) fun _ _ z => z.elim))
    obtain ⟨S2, H2, v2, I2, x2, q2, r2, un⟩ := q
    dsimp only
    have fr : ∀ {b : Addr}, FpOk X pins H b → b ∉ frs X.stack := fun {b} f z => by
      rcases List.mem_cons.mp (I2.stkSub b z) with z | z
      · exact f.2.1 z
      · exact f.2.2.1 z
    have nk2 := un.keep kS _ nk' nkH (fr fk) (by simp)
    have na2 := un.keep a _ na' naH (fr fp) (by simp)
    have nkH2 := un.free kS _ nk' nkH (by simp)
    have naH2 := un.free a _ na' naH (by simp)
    obtain ⟨c3, hc3⟩ : ∃ c3, (s2.heap.update kS (Obj.mapSeq (·.push u2))).get? kS = some (seqObj "list" (kA.push u2) c3) := ⟨_, get?_update_seq nk2 (·.push u2)⟩
    have sb := Heap.SameBut.update s2.heap kS (Obj.mapSeq (·.push u2))
    refine wpAny_bind (listUpdate_at nk2 rfl ?_ (Nat.le_trans hsz hz) (by rw [Array.size_push]; omega))
    have fk2 := upF fk nkH2
    refine wpAny_pure ⟨rfl, S2, H2, kA.push u2, c3, kV ++ [v2], I2.turned (t' := s2.toks) (fun b ob hb e => (sb.2 b hb).trans e) fk2.1 fk2.2.1 fk2.2.2.2.1 fk2.2.2.2.2.1 fk2.2.2.2.2.2, x'.trans x2 fun c q => .inl q, hc3, (sb.2 a (Ne.symm hka)).trans na2, nkH2, naH2, ?_, ?_⟩
    · rw [Array.toList_push]; exact Vals.append rk (.cons r2 .nil)
    · rw [List.take_add_one, hkj]
      show AtL X.K S2 (kV ++ [v2]) ((ks.take j ++ [(kd, p)]).map (·.1))
      rw [List.map_append]
      exact (ak.mono x2.s).append (.cons q2 .nil)
  case last =>
    rintro s' ⟨S', H', kA, c, kV, I', x', nk', na', nkH, naH, rk, ak⟩
    rw [Nat.zero_add, lv, ← lk, List.take_length] at ak
    have each : EachIs (fun v p => ∃ as, Reads s'.heap v p as) kA.toList (ds.map (keyFn m)) := by
      rw [← mk]
      refine each_of_at I' x'.sh ak rk ?_
      refine List.ext_getElem? fun j => ?_
      simp only [List.getElem?_map]
      cases hk : ks[j]? with
      | none => rfl
      | some y =>
        have hjl : j < ds.length := by
          have := (List.getElem?_eq_some_iff.mp hk).1
          omega
        obtain ⟨kd, o, p, _, hp, hkj⟩ := gk j _ (List.getElem?_eq_getElem hjl)
        rw [hk] at hkj
        cases hkj
        show some kd.py = some (some p)
        rw [hp]
    have lA : kA.size = vs.length := by
      have q := each.length
      rw [Array.length_toList, List.length_map] at q
      omega
    rw [mk] at hal hso hdp
    refine wpAny_bind (listItems_at nk' rfl ?_)
    have hu := hr.un
    refine PySem.W.keyH_end (κ := PySem.W.dataKind s'.heap (ds.map (keyFn m))) (h₁ := PySem.W.hideAll s'.heap [kS]) (fun b o _ e => PySem.W.of_hideAll [kS] e) (PySem.W.hideAll_none [kS] List.mem_cons_self) nk' na' hka
      (PySem.W.SortsAt.data (s := s') each hal hso fun d hd => by have := hdp d hd; show X.A.units + 1 + 1 + d.depth < cLine; omega) lA (by rw [lv]; exact hz) fun h' tk c' kp na3 => ⟨rfl, ?_⟩
    have outE : EachIs (VAt X.K S') (PySem.W.sortVals (PySem.W.dataKind s'.heap (ds.map (keyFn m))) false kA.toList vs) (ds.mergeSort (dataLe false (keyFn m))) :=
      PySem.W.keyedOut_each (keyFn m) ⟨s'.heap, kA.toList, hal, rfl, each⟩ (each_at (hat.mono x'.s) rv)
    obtain ⟨ys, ry, ay⟩ := at_each outE
    have I4 : Inv X pins σ H' { s' with heap := h', toks := tk } := I'.turnedL (ch := [a, kS]) (t' := tk) (fun b ob hb e => kp b ob (fun z => hb (by simp [z])) (PySem.W.hideAll_get [kS] e fun z => hb (by simp at z; simp [z]))) fun b hb => by
      rcases List.mem_cons.mp hb with z | z
      · rw [z]; exact upF fp naH
      · rw [List.mem_singleton.mp z]; exact upF fk nkH
    have lz : ys.length ≤ sizeLine := by rw [ay.length, List.length_mergeSort]; exact hz
    have I5 : Inv X pins σ (upd H' a (.lst ys)) { s' with heap := h', toks := tk } := Inv.take (s := { s' with heap := h', toks := tk }) (h' := h') (t' := tk) I4 (fun b ob _ e => e) (upF fp naH) ⟨lz, _, c', ry, na3⟩
    exact ⟨S', H', ys, I5, x', naH, ay⟩
end
end SW

set_option maxRecDepth 100000
/-! SW19: sorted as a call; what is collected of a list, a tuple, a dict. -/
namespace SW
open PySem PySem.Spec PyProof.Rows L2
open PySem.W (EachIs dataLe AllAlike Sortable alike)

/-- the items of what x is -/
def ColAt (K : PySem.W.Frag) (H : Hp) (x : V) (vs : List V) : Prop :=
  (∃ a, x = .ref a ∧ SqL K H a vs) ∨ (∃ a, x = .ref a ∧ SqT K H a vs) ∨ ∃ a dx, x = .ref a ∧ DGood K H a dx ∧ vs = dx.xs.map fun p => V.ref p.2.1
theorem col_at {K : PySem.W.Frag} {S H : Hp} {v : V} {d : D} {ds : List D} (h : At K S v d) (sub : Same S H) (e : itemsA d = some ds) : ∃ vs, ColAt K H v vs ∧ AtL K S vs ds ∧ ds.length ≤ sizeLine := by
  cases h with
  | lst h z r => cases e; exact ⟨_, .inl ⟨_, rfl, .of (sub _ _ h)⟩, r, z⟩
  | tup h z r => cases e; exact ⟨_, .inr (.inl ⟨_, rfl, sqT_mono sub h⟩), r, z⟩
  | scr h z => cases e; exact ⟨_, .inl ⟨_, rfl, sub.seq h⟩, AtL.ints _, by rw [List.length_map]; exact z⟩
  | dct h t z r => cases e; exact ⟨_, .inr (.inr ⟨_, _, rfl, good_of (sub _ _ h) t z r sub, rfl⟩), (dct_split t r).1, by rw [List.length_map]; exact z⟩
  | _ => cases e
section
variable {prog : Program} {w : World} {A : Around} {E : Value → Shared → Prop} {s : Shared}
theorem col_tuple {l : Addr} {vs : List Value} {Q : List Value → Shared → Prop} (hl : IsTup s.heap l vs.toArray) (hsz : vs.length ≤ sizeLine)
    (h : ∀ h', (∀ b o, s.heap.get? b = some o → h'.get? b = some o) → Q vs { s with heap := h' }) : wpAny (model prog w) A (collect (.ref l)) Q E s := by
  obtain ⟨o, ho, hc, n, hd⟩ := id hl
  unfold collect
  refine wpAny_bind (wpAny_runValue (codeAny_builtin entry_proto_collect' ?_))
  show wpAny _ _ (do again (.builtin "list.__iadd__" ⟨[← newList [], .ref l], []⟩)) _ _ s
  refine wpAny_bind (wpAny_newList (wpAny_pure ⟨Code.quiet_builtin _ (by decide +kernel), codeAny_builtin entry_list_iadd' ?_⟩))
  have up : ∀ b q, s.heap.get? b = some q → (s.heap.push (seqObj "list" #[] 0)).get? b = some q := fun b q e => Heap.get?_push_of_some _ e
  have nw : (s.heap.push (seqObj "list" #[] 0)).get? s.heap.objs.size = some (seqObj "list" #[] 0) := Heap.get?_push_size _ rfl
  show wpAny _ _ (Builtin.List.listExtendWith (.ref s.heap.objs.size) (.ref l) (.ref s.heap.objs.size)) _ _ { s with heap := s.heap.push (seqObj "list" #[] 0) }
  unfold Builtin.List.listExtendWith
  refine wpAny_bind (wpAny_typeOf (T := "tuple") ⟨o, up _ _ ho, hc⟩ ?_)
  rw [if_pos (by rw [show (Value.type "tuple" == Value.type "tuple") = true from by decide, Bool.or_true])]
  refine wpAny_bind (listItems_at (up _ _ ho) hd ?_)
  refine wpAny_bind (listItems_at nw rfl ?_)
  rw [if_neg (by simp)]
  refine wpAny_bind (listUpdate_at nw rfl ?_ (Nat.zero_le _) (by show (#[] ++ vs.toArray).size ≤ sizeLine + 1; simp only [Array.size_append, List.size_toArray, List.length_nil]; omega))
  refine wpAny_pure ?_
  show wpAny (model prog w) A (do
      let o ← load s.heap.objs.size
      match o.data with
      | .seq xs _ => pure xs.toList
      | _ => unsupported "internal:collect") Q E { s with heap := (s.heap.push (seqObj "list" #[] 0)).update s.heap.objs.size (Obj.mapSeq (· ++ vs.toArray)) }
  refine wpAny_bind (wpAny_load (get?_update_seq nw _) ?_)
  show wpAny _ _ (pure ((#[] : Array Value) ++ vs.toArray).toList) Q E _
  have e : ((#[] : Array Value) ++ vs.toArray).toList = vs := by simp
  rw [e]
  refine wpAny_pure (h _ fun b q eb => ?_)
  exact ((Heap.SameBut.update ..).2 b (Nat.ne_of_lt (Heap.lt_size eb))).trans (up b q eb)
end
section
variable {X : Cx} {pins : List (Addr × Obj)} {σ : L2.St} {S H : Hp} {s : Shared} {E : Value → Shared → Prop}
theorem col_run {A : Around} (I : Inv X pins σ H s) (hh : A.handled = none) {x : V} {vs : List V} {u : Value} (c : ColAt X.K H x vs) (rx : RelV x u) :
    wpAny (model X.prog X.w) A (collect u) (fun us s1 => Inv X pins σ H s1 ∧ Vals vs us ∧ us.length ≤ sizeLine) E s := by
  rcases c with ⟨a, rfl, h⟩ | ⟨a, rfl, h⟩ | ⟨a, dx, rfl, g, rfl⟩
  · obtain rfl : u = Value.ref a := rx
    obtain ⟨its, rv, p, z⟩ := I.list h
    refine collect_list p.isList ⟨I.kept (t' := s.toks) fun b q e => ?_, rv, by rw [← L2.Vals.length rv]; exact z⟩ (by rw [← L2.Vals.length rv]; exact z)
    exact ((Heap.SameBut.update ..).2 b (Nat.ne_of_lt (Heap.lt_size e))).trans (Heap.get?_push_of_some _ e)
  · obtain rfl : u = Value.ref a := rx
    obtain ⟨its, rv, p, z⟩ := I.tuple h
    have z' : its.length ≤ sizeLine := by rw [← L2.Vals.length rv]; exact z
    exact col_tuple p z' fun h' k => ⟨I.kept (t' := s.toks) k, rv, z'⟩
  · obtain rfl : u = Value.ref a := rx
    obtain ⟨ys, _, _, _, ho⟩ := g.dict I
    obtain ⟨es, ep, hdt, en⟩ := g.ens
    have hsz : es.size = dx.xs.length := by rw [← Paired.length en, Array.length_toList]
    have z : es.size ≤ sizeLine := by rw [hsz]; exact g.len
    refine PySem.W.kdu_collect (PySem.KdlSrc.rawDict (es := es) (ep := ep) g.sys) hh ⟨dx.o, ho, g.ex, hdt⟩ z fun h' tk acc k hacc => ⟨I.kept k, ?_, ?_⟩
    · have pr : ∀ {l : List Value} {xs : XL}, l.length = xs.length → (∀ (j : Nat) (v : Value), l[j]? = some v → ∃ p : NestedKey × Addr × V, xs[j]? = some p ∧ v = .ref p.2.1) → Vals (xs.map fun p => V.ref p.2.1) l := by
        intro l
        induction l with
        | nil => intro xs e _; cases xs with | nil => exact .nil | cons _ _ => simp at e
        | cons v l ih =>
          intro xs e h
          cases xs with
          | nil => simp at e
          | cons p xs =>
            obtain ⟨p', e1, e2⟩ := h 0 v rfl
            cases (show some p = some p' by simpa using e1)
            exact .cons e2 (ih (by simpa using e) fun j v' hv => by simpa using h (j + 1) v' (by simpa using hv))
      refine pr (by rw [Array.length_toList, hacc.1, hsz]) fun j v hv => ?_
      have hv' : acc[j]? = some v := by rw [← Array.getElem?_toList]; exact hv
      obtain ⟨hi, e⟩ := hacc.2 j v hv'
      obtain ⟨en', hen, hk, _⟩ := en.get (List.getElem?_eq_getElem (by omega : j < dx.xs.length))
      rw [Array.getElem?_toList, Array.getElem?_eq_getElem hi] at hen
      cases hen
      exact ⟨_, List.getElem?_eq_getElem (by omega), by rw [e, hk]⟩
    · rw [Array.length_toList, hacc.1]; exact z
end

/-- sorted(e, key=f), sorted(e) -/
def rSortK (X : Cx) (fa : Addr) (m : List D → Out (D × D)) : List V → List V → Hp → VK → Prop := fun vs zs H Q => ∃ x S d ds out, vs = [x] ∧ zs = [.ref fa] ∧ Same S H ∧ At X.K S x d ∧ itemsA d = some ds ∧ sortK m ds = some out ∧
  ∀ S' H' p ys, Ext (fun _ => False) S H S' H' → H' p = none → AtL X.K S' ys out → Q (.ref p) (upd H' p (.lst ys))
section
variable {X : Cx} {k : Nat} {fa : Addr} {fd : FuncData} {ps : List Str} {m : List D → Out (D × D)}
theorem sortK_some {ds out : List D} (h : sortK m ds = some out) : ∃ ks, keysOf m ds = some ks ∧ keysOk (ks.map (·.2)) = true ∧ out = ds.mergeSort (dataLe false (keyFn m)) := by
  unfold sortK at h
  split at h
  · rename_i ks hk
    split at h
    · rename_i ho
      cases h
      exact ⟨ks, hk, ho, rfl⟩
    · cases h
  · cases h
theorem call_sortK (hcalm : X.calm = true) (F : FnOk X.prog X.w X.K X.mg X.base (L2.CX X.prog X.w) k fa fd ps (spec X.K X.mg 1 none false m)) (hr : Room (k + 2) X.A) (hb : Binds X.K fd ps []) : CallRK X (.builtin "sorted") [Str.ofString "key"] (rSortK X fa m) := by
  intro pins s σ H xs zs us ws Q I r rz h
  obtain ⟨x, S, d, ds, out, rfl, rfl, sub, hat, hit, hso, q⟩ := h
  obtain ⟨u, rfl, rx⟩ := vals1 r
  obtain ⟨w1, rfl, rw1⟩ := vals1 rz
  obtain rfl : w1 = Value.ref fa := rw1
  obtain ⟨ks, hks, hok, rfl⟩ := sortK_some hso
  obtain ⟨vs, hc, hvs, hz⟩ := col_at hat sub hit
  have lvs := hvs.length
  refine call_function_entry_kw kind_sorted plain_sorted entry_sorted (PyProof.Rows.ksk_s1 _ _) ?_
  unfold Builtin.«sorted»
  refine wpAny_bind (m := checkCount "sorted" 1 1 _) (wpAny_pure (?_))
  refine wpAny_bind (wpAny_mono (col_run (A := X.A.in1) (E := X.xe) I hr.hd hc rx) (fun its s1 q1 => ?_) fun _ _ z => z)
  obtain ⟨I1, rv, zl⟩ := q1
  refine wpAny_bind (wpAny_newList ?_ zl)
  have nw : (s1.heap.push (seqObj "list" its.toArray 0)).get? s1.heap.objs.size = some (seqObj "list" its.toArray 0) := Heap.get?_push_size _ rfl
  have hn := I1.hok.fresh (Nat.le_refl s1.heap.objs.size)
  have I2 : Inv X pins σ H { s1 with heap := s1.heap.push (seqObj "list" its.toArray 0) } := I1.kept (t' := s1.toks) fun b o e => Heap.get?_push_of_some _ e
  have fp := I1.fpOk (Nat.le_refl s1.heap.objs.size) hn
  refine wpAny_bind (wpAny_holding (wpAny_call_entry_kw slot_list_sort ⟨_, nw, rfl⟩ entry_list_sort ?sort (PyProof.Rows.ksk_l1 _ _)))
  case sort =>
    show wpAny (model X.prog X.w) X.A.in1.in1 (Builtin.«list.sort» ⟨[.ref s1.heap.objs.size], [(Str.ofString "key", .ref fa)]⟩) _ _ { s1 with heap := s1.heap.push (seqObj "list" its.toArray 0) }
    rw [PyProof.Rows.ksk_t1]
    unfold PyProof.Rows.ksk_tree
    refine wpAny_bind (listItems_at nw rfl ?_)
    obtain ⟨e1, ne⟩ : ∃ e1, ((s1.heap.push (seqObj "list" its.toArray 0)).update s1.heap.objs.size (Obj.mapSeq fun _ => (#[] : Array Value))).get? s1.heap.objs.size = some (seqObj "list" #[] e1) := ⟨_, get?_update_seq nw fun _ => #[]⟩
    refine wpAny_bind (listUpdate_at nw rfl ?_ (by rw [List.size_toArray]; exact zl) (Nat.zero_le _))
    have sb := Heap.SameBut.update (s1.heap.push (seqObj "list" its.toArray 0)) s1.heap.objs.size (Obj.mapSeq fun _ => (#[] : Array Value))
    have I3 : Inv X pins σ H { s1 with heap := (s1.heap.push (seqObj "list" its.toArray 0)).update s1.heap.objs.size (Obj.mapSeq fun _ => (#[] : Array Value)) } :=
      I2.turned (t' := s1.toks) (fun b ob hb e => (sb.2 b hb).trans e) fp.1 fp.2.1 fp.2.2.2.1 fp.2.2.2.2.1 fp.2.2.2.2.2
    refine wpAny_bind (seqEpoch_at ne rfl ?_)
    refine wpAny_bind (wpAny_newTuple ?_ zl)
    refine wpAny_bind (wpAny_newList ?_ (Nat.zero_le _))
    refine wpAny_holding ?_
    generalize hg : (s1.heap.push (seqObj "list" its.toArray 0)).update s1.heap.objs.size (Obj.mapSeq fun _ => (#[] : Array Value)) = g at ne I3
    have hgs : g.objs.size = s1.heap.objs.size + 1 := by rw [← hg, Heap.size_update, Heap.size_push]
    have I4 : Inv X pins σ H { s1 with heap := (g.push (seqObj "tuple" its.toArray 0)).push (seqObj "list" #[] 0) } :=
      I3.kept (t' := s1.toks) fun b o e => Heap.get?_push_of_some _ (Heap.get?_push_of_some _ e)
    have htl : s1.heap.objs.size < (g.push (seqObj "tuple" its.toArray 0)).objs.size := by rw [Heap.size_push, hgs]; omega
    have hts : (g.push (seqObj "tuple" its.toArray 0)).objs.size = s1.heap.objs.size + 2 := by rw [Heap.size_push, hgs]
    have nk : ((g.push (seqObj "tuple" its.toArray 0)).push (seqObj "list" #[] 0)).get? (g.push (seqObj "tuple" its.toArray 0)).objs.size = some (seqObj "list" #[] 0) := Heap.get?_push_size _ rfl
    have fk : FpOk X pins H (g.push (seqObj "tuple" its.toArray 0)).objs.size := I1.fpOk (Nat.le_of_lt htl) (I1.hok.fresh (Nat.le_of_lt htl))
    refine wpAny_mono (loop_keys (E := X.xe) F hr hb hks hok I4 sub hvs rv hz fk fp (Nat.ne_of_gt htl) nk (Heap.get?_push_of_some _ (Heap.get?_push_of_some _ ne))) (fun fn s' hf => ?_) fun _ _ z => z
    obtain ⟨rfl, S', H', ys, I5, x5, n5, a5⟩ := hf
    exact ⟨_, rfl, wpAny_pure ⟨_, rfl, .ref s1.heap.objs.size, _, I5, rfl, q S' H' _ ys x5 n5 a5⟩⟩
end
section
variable {X : Cx} {W : WX} {os os1 : Os} {e : Expr} {f : Rho → Out (D × Rho)} {pos p pk kp : Pos} {k : Nat} {fa : Addr} {fd : FuncData} {ps : List Str} {m : List D → Out (D × D)}
def eSortK (m : List D → Out (D × D)) (f : Rho → Out (D × Rho)) : Rho → Out (D × Rho) := fun ρ => (f ρ).bind fun p => (Out.of ((itemsA p.1).bind (sortK m))).bind fun c => .ok (.lst c, p.2)
theorem ve_sortK {y : Str} (F : FnOk X.prog X.w X.K X.mg X.base (L2.CX X.prog X.w) k fa fd ps (spec X.K X.mg 1 none false m)) (hr : Room (k + 2) X.A) (hmf : X.mg y = some (.ref fa)) (hb : Binds X.K fd ps []) (ha : VE X W os e f os1 false) (hm : X.mg "sorted" = none) (hle : Le os1 os := by rfl) (hc : X.calm = true := by rfl)
    (hg : Gl X "sorted" := by rfl) (hgy : Gl X y := by rfl) (hdb : (y == ("__debug__" : Str)) = false := by decide) (he1 : starEach [e] X.env = (false, eval e X.env) :: starEach [] X.env := by rfl)
    (he : backTo pos (starEach [e] X.env) = (false, eval e X.env) :: backTo pos (starEach [] X.env) := by rfl) (hpl : (backTo pos (starEach [e] X.env)).any (·.1) = false := by rfl)
    (hall : (backToKw pos (keywordEach [⟨some "key", .Name y pk, kp⟩] X.env)).all (·.1.isSome) = true := by rfl) (hnone : (backToKw pos (keywordEach [⟨some "key", .Name y pk, kp⟩] X.env)).any (·.1.isNone) = false := by rfl) (hks : (backToKw pos (keywordEach [⟨some "key", .Name y pk, kp⟩] X.env)).filterMap (·.1) = [Str.ofString "key"] := by rfl) :
    VE X W os (.Call (.Name "sorted" p) [e] [⟨some "key", .Name y pk, kp⟩] pos) (eSortK m f) os1 true := by
  obtain ⟨ta, pa, ka⟩ := ha
  refine ⟨_, pe_callBK (call_sortK hc F hr hb) hg hm (by decide +kernel) (pa_cons pa pa_nil he1) (pk_cons (pe_glob (v := .ref fa) hgy hmf rfl hdb) pk_nil) (by decide) (by decide) he hpl hall hnone hks, fun S σ H ρ Q rel P => ?_⟩
  refine ka S σ H ρ _ rel (Post.seq P (fun z => z) (fun c fs p => p) fun d ρ1 v S1 H1 st1 rel1 q1 P1 => ?_)
  have P1 := P1.step RV.ok st1
  dsimp only at P1
  cases hi : itemsA d with
  | none => rw [hi] at P1; exact P1.elim
  | some ds =>
    rw [hi] at P1
    cases hs : sortK m ds with
    | none =>
      have P1 : Post X W S1 H1 os1 σ os1 (RV X.K true) Q ((Out.of (sortK m ds)).bind fun c => .ok (.lst c, ρ1)) := P1
      rw [hs] at P1
      exact P1.elim
    | some out =>
      have P1 : Post X W S1 H1 os1 σ os1 (RV X.K true) Q ((Out.of (sortK m ds)).bind fun c => .ok (.lst c, ρ1)) := P1
      rw [hs] at P1
      refine ⟨v, S1, d, ds, out, rfl, rfl, rel1.sub, q1, hi, hs, fun S' H' l ys x nl hys => ?_⟩
      have xx := Ext.newO (O := fun _ => False) (o := .lst ys) x.sh nl
      obtain ⟨ks, _, _, rfl⟩ := sortK_some hs
      have hz : (ds.mergeSort (dataLe false (keyFn m))).length ≤ sizeLine := by
        rw [List.length_mergeSort]
        obtain ⟨_, _, _, hz⟩ := col_at (show At X.K S1 v d from q1) rel1.sub hi
        exact hz
      have x2 := x.trans xx fun c q => .inl q
      exact P1 (.ref l) S' (upd H' l (.lst ys)) (Stp.of_ext x2) (rel1.ext0 x2) ⟨.mkL (x.sh.free nl) upd_same hz hys, fun a e => by cases e; exact x.there _ nl⟩
end
end SW

set_option maxRecDepth 100000
/-! SW20: max(.., default=..), sorted(..), dict(..) of pairs. -/
namespace SW
open PySem PySem.Spec PyProof.Rows L2
open PySem.W (EachIs dataLe AllAlike Sortable alike)

/-! ### max(xs, default=z), xs a list or a tuple of whole numbers -/
def intsIn : D → Option (List Int)
  | .lst ds => intsOf ds
  | .tup ds => intsOf ds
  | _ => none
def foldM (mx : Bool) (n : Int) (ns : List Int) : Int := ns.foldl (fun a b => if mx = true then max a b else min a b) n
def mmDef (mx : Bool) (d z : D) : Option D := match intsIn d with
  | some [] => some z
  | some (n :: ns) => some (.int (foldM mx n ns))
  | none => none
section
variable {X : Cx}
end
section
variable {X : Cx} {W : WX} {os os1 os2 : Os} {e e2 : Expr} {f f2 : Rho → Out (D × Rho)} {pos p kp : Pos}
def eMM (mx : Bool) (f f2 : Rho → Out (D × Rho)) : Rho → Out (D × Rho) := fun ρ => (f ρ).bind fun p => (f2 p.2).bind fun q => (Out.of (mmDef mx p.1 q.1)).bind fun c => .ok (c, q.2)
end
end SW

set_option maxRecDepth 100000
/-! SW21: equations for dicts in mirrors; words and fractions as terms of sums. -/
namespace SW
open PySem PySem.Spec PyProof.Rows L2
theorem ixA_lst {l : List D} {k : D} : ixA (.lst l) k = ixD (.lst l) k := rfl
theorem ixA_tup {l : List D} {k : D} : ixA (.tup l) k = ixD (.tup l) k := rfl
theorem ixA_scr {l : List Int} {k : D} : ixA (.scr l) k = ixD (.scr l) k := rfl
/-! words as keys -/
def wk (w : List Int) : NestedKey := .tup (w.map .num)
theorem keyDs_ints : ∀ w : List Int, keyDs (w.map D.int) = some (w.map NestedKey.num)
  | [] => rfl
  | i :: w => by
    show (match keyD (.int i), keyDs (w.map D.int) with
      | some k, some ks => some (k :: ks)
      | _, _ => none) = _
    rw [keyDs_ints w]
    rfl
theorem depth_nums : ∀ w : List Int, NestedKey.depthAll (w.map NestedKey.num) = 0
  | [] => rfl
  | i :: w => by
    show max (NestedKey.depth (.num i)) (NestedKey.depthAll (w.map NestedKey.num)) = 0
    rw [depth_nums w]
    rfl
theorem keyT_word (w : List Int) : keyT (eWord.en w) = some (wk w) := by
  refine keyT_of ?_ ?_
  · show (match keyDs (w.map D.int) with
      | some ks => some (NestedKey.tup ks)
      | none => none) = _
    rw [keyDs_ints]
    rfl
  · show NestedKey.depthAll (w.map NestedKey.num) + 1 ≤ 8
    rw [depth_nums]
    decide
theorem keyB_word (w : List Int) : keyB (wk w) = eWord.en w := keyT_B (keyT_word w)
theorem wk_inj {a b : List Int} (h : wk a = wk b) : a = b := by
  unfold wk at h
  injection h with h
  exact (List.map_inj_right (f := NestedKey.num) fun x y e => by injection e).mp h
section
variable {α : Type}
/-- a typed table -/
def getT (l : List (List Int × α)) (w : List Int) : Option α := (l.find? fun p => decide (p.1 = w)).map (·.2)
def setT (l : List (List Int × α)) (w : List Int) (q : α) : List (List Int × α) := if (getT l w).isSome = true then l.map (fun p => if p.1 = w then (p.1, q) else p) else l ++ [(w, q)]
def delT (l : List (List Int × α)) (w : List Int) : List (List Int × α) := l.filter fun p => decide (p.1 ≠ w)
def dE (f : α → D) (l : List (List Int × α)) : List (NestedKey × D) := l.map fun p => (wk p.1, f p.2)
theorem dec_wk {a b : List Int} : decide (wk a = wk b) = decide (a = b) := by
  by_cases h : a = b
  · subst h; simp
  · rw [decide_eq_false h, decide_eq_false fun z => h (wk_inj z)]
theorem valD_E (f : α → D) (w : List Int) : ∀ l : List (List Int × α), valD (dE f l) (wk w) = (getT l w).map f
  | [] => rfl
  | p :: l => by
    have ih := valD_E f w l
    unfold valD getT dE at *
    rw [List.map_cons, List.find?_cons, List.find?_cons]
    dsimp only
    rw [dec_wk]
    cases decide (p.1 = w)
    · exact ih
    · rfl
theorem putD_E (f : α → D) (w : List Int) (q : α) (l : List (List Int × α)) : putD (dE f l) (wk w) (f q) = dE f (setT l w q) := by
  unfold putD setT
  rw [valD_E, Option.isSome_map]
  split
  · unfold dE
    rw [List.map_map, List.map_map]
    refine List.map_congr_left fun p _ => ?_
    show (if wk p.1 = wk w then (wk p.1, f q) else (wk p.1, f p.2)) = _
    by_cases h : p.1 = w
    · rw [if_pos (by rw [h])]
      show _ = (fun p : List Int × α => (wk p.1, f p.2)) (if p.1 = w then (p.1, q) else p)
      rw [if_pos h]
    · rw [if_neg fun z => h (wk_inj z)]
      show _ = (fun p : List Int × α => (wk p.1, f p.2)) (if p.1 = w then (p.1, q) else p)
      rw [if_neg h]
  · unfold dE
    rw [List.map_append]
    rfl
theorem dropD_E (f : α → D) (w : List Int) (l : List (List Int × α)) : dropD (dE f l) (wk w) = dE f (delT l w) := by
  unfold dropD delT dE
  rw [List.filter_map]
  congr 1
  refine List.filter_congr fun p _ => ?_
  show decide (wk p.1 ≠ wk w) = decide (p.1 ≠ w)
  by_cases h : p.1 = w
  · simp [h]
  · have : ¬ wk p.1 = wk w := fun z => h (wk_inj z)
    simp [h, this]
theorem keys_E (f : α → D) (l : List (List Int × α)) : (dE f l).map (fun p => keyB p.1) = (l.map (·.1)).map eWord.en := by
  unfold dE
  rw [List.map_map, List.map_map]
  exact List.map_congr_left fun p _ => keyB_word p.1
theorem dE_len (f : α → D) (l : List (List Int × α)) : (dE f l).length = l.length := by unfold dE; rw [List.length_map]
end
/-! the order of words: the shorter first, then as tuples -/
def rkLt (a b : List Int) : Bool := if a.length = b.length then ltN a b else decide (a.length < b.length)
def rkLe (a b : List Int) : Bool := !rkLt b a
def rkKey (w : List Int) : PyData := .tuple [.int (w.length : Nat), eWord.py w]
theorem rkKey_lt (a b : List Int) : PySem.W.dataLt (rkKey a) (rkKey b) = rkLt a b := by
  unfold rkKey
  have ha : PySem.W.alike (eWord.py a) (eWord.py b) = true := by
    show PySem.W.alike (.tuple (a.map PyData.int)) (.tuple (b.map PyData.int)) = true
    rw [PySem.W.alike]
    exact alike_ints a b
  rw [PySem.W.dataLt_pair rfl ha]
  show (if (((a.length : Nat) : Int) == ((b.length : Nat) : Int)) = true then (if PyData.eqv (eWord.py a) (eWord.py b) = true then false else PySem.W.dataLt (eWord.py a) (eWord.py b)) else PySem.W.dataLt (.int (a.length : Nat)) (.int (b.length : Nat))) = _
  unfold rkLt
  rw [lt_word, eWord.heq, PySem.W.dataLt_int]
  by_cases h : a.length = b.length
  · rw [if_pos h, if_pos (by rw [h]; simp)]
    by_cases e : a = b
    · subst e
      rw [if_pos (by simp)]
      have self : ∀ l : List Int, ltN l l = false := fun l => by
        induction l with
        | nil => rfl
        | cons x l ih => unfold ltN; rw [if_pos rfl]; exact ih
      exact (self a).symm
    · rw [if_neg (by simp [e])]
  · rw [if_neg h, if_neg (by simp; omega)]
    rw [Bool.eq_iff_iff, decide_eq_true_iff, decide_eq_true_iff]
    omega
end SW

set_option maxRecDepth 100000
/-! SW22: typed sums of words: adding, the linear look at them, the told sum. -/
namespace SW
open PySem PySem.Spec PyProof.Rows L2
abbrev Wd := List Int
abbrev SumT := List (Wd × Rat)
def coef (l : SumT) (w : Wd) : Rat := (getT l w).getD 0
def addT (l : SumT) (w : Wd) (q : Rat) : SumT := if coef l w + q = 0 then delT l w else setT l w (coef l w + q)
def linS (f : Wd → Rat) : SumT → Rat
  | [] => 0
  | p :: l => p.2 * f p.1 + linS f l
structure Good (l : SumT) : Prop where
  nd : (l.map (·.1)).Nodup
  nz : ∀ p ∈ l, p.2 ≠ 0
theorem good_nil : Good [] := ⟨List.nodup_nil, fun p hp => by cases hp⟩
section
variable {l m : SumT} {w v : Wd} {q : Rat} {f : Wd → Rat}
theorem getT_cons {α : Type} (p : Wd × α) (l : List (Wd × α)) (w : Wd) : getT (p :: l) w = if p.1 = w then some p.2 else getT l w := by
  unfold getT
  rw [List.find?_cons]
  by_cases h : p.1 = w
  · rw [decide_eq_true h, if_pos h]; rfl
  · rw [decide_eq_false h, if_neg h]
theorem getT_none {α : Type} {w : Wd} : ∀ {l : List (Wd × α)}, getT l w = none ↔ w ∉ l.map (·.1)
  | [] => by simp [getT]
  | p :: l => by
    rw [getT_cons, List.map_cons, List.mem_cons]
    by_cases h : p.1 = w
    · simp [h]
    · rw [if_neg h, getT_none]
      have : ¬ w = p.1 := fun z => h z.symm
      simp [this]
theorem getT_of_mem {α : Type} {w : Wd} {q : α} : ∀ {l : List (Wd × α)}, (l.map (·.1)).Nodup → (w, q) ∈ l → getT l w = some q
  | [], _, h => by cases h
  | p :: l, n, h => by
    rw [List.map_cons, List.nodup_cons] at n
    rw [getT_cons]
    rcases List.mem_cons.mp h with e | h
    · rw [← e, if_pos rfl]
    · have : ¬ p.1 = w := fun z => n.1 (by rw [z]; exact List.mem_map.mpr ⟨_, h, rfl⟩)
      rw [if_neg this]
      exact getT_of_mem n.2 h
theorem coef_cons (p : Wd × Rat) (l : SumT) (w : Wd) : coef (p :: l) w = if p.1 = w then p.2 else coef l w := by
  unfold coef
  rw [getT_cons]
  split <;> rfl
theorem coef_not (h : w ∉ l.map (·.1)) : coef l w = 0 := by
  unfold coef
  rw [getT_none.mpr h]
  rfl
theorem delT_not {α : Type} {l : List (Wd × α)} {w : Wd} (h : w ∉ l.map (·.1)) : delT l w = l := by
  unfold delT
  refine List.filter_eq_self.mpr fun p hp => ?_
  exact decide_eq_true fun z => h (by rw [← z]; exact List.mem_map.mpr ⟨p, hp, rfl⟩)
theorem lin_del : ∀ {l : SumT}, (l.map (·.1)).Nodup → linS f (delT l w) = linS f l - coef l w * f w
  | [], _ => by
    show (0 : Rat) = 0 - coef [] w * f w
    have : coef ([] : SumT) w = 0 := rfl
    rw [this]; grind
  | p :: l, n => by
    rw [List.map_cons, List.nodup_cons] at n
    rw [coef_cons]
    by_cases h : p.1 = w
    · have e : delT (p :: l) w = delT l w := by unfold delT; rw [List.filter_cons_of_neg (by simp [h])]
      rw [e, delT_not (by rw [← h]; exact n.1), if_pos h]
      show linS f l = p.2 * f p.1 + linS f l - p.2 * f w
      rw [h]; grind
    · have e : delT (p :: l) w = p :: delT l w := by unfold delT; rw [List.filter_cons_of_pos (by simp [h])]
      rw [e, if_neg h]
      show p.2 * f p.1 + linS f (delT l w) = p.2 * f p.1 + linS f l - coef l w * f w
      rw [lin_del n.2]; grind
theorem lin_append (a b : SumT) : linS f (a ++ b) = linS f a + linS f b := by
  induction a with
  | nil => show linS f b = 0 + linS f b; grind
  | cons p a ih => show p.2 * f p.1 + linS f (a ++ b) = p.2 * f p.1 + linS f a + linS f b; rw [ih]; grind
theorem map_not : ∀ {l : SumT}, w ∉ l.map (·.1) → (l.map fun p => if p.1 = w then (p.1, q) else p) = l
  | [], _ => rfl
  | p :: l, h => by
    rw [List.map_cons, List.mem_cons] at h
    rw [List.map_cons, map_not fun z => h (.inr z), if_neg fun z => h (.inl z.symm)]
theorem lin_map : ∀ {l : SumT}, (l.map (·.1)).Nodup → w ∈ l.map (·.1) → linS f (l.map fun p => if p.1 = w then (p.1, q) else p) = linS f l + (q - coef l w) * f w
  | [], _, h => by cases h
  | p :: l, n, h => by
    rw [List.map_cons, List.nodup_cons] at n
    rw [List.map_cons, coef_cons]
    by_cases e : p.1 = w
    · rw [if_pos e, if_pos e, map_not (by rw [← e]; exact n.1)]
      show q * f p.1 + linS f l = p.2 * f p.1 + linS f l + (q - p.2) * f w
      rw [e]; grind
    · rw [if_neg e, if_neg e]
      rw [List.map_cons, List.mem_cons] at h
      show p.2 * f p.1 + linS f _ = p.2 * f p.1 + linS f l + (q - coef l w) * f w
      rw [lin_map n.2 (h.resolve_left fun z => e z.symm)]; grind
theorem isSome_mem {α : Type} {l : List (Wd × α)} : (getT l w).isSome = true ↔ w ∈ l.map (·.1) := by
  have := getT_none (l := l) (w := w)
  cases h : getT l w with
  | none => simp [this.mp h]
  | some x =>
    simp only [Option.isSome_some, true_iff]
    exact Classical.byContradiction fun z => by rw [this.mpr z] at h; cases h
theorem lin_set (n : (l.map (·.1)).Nodup) : linS f (setT l w q) = linS f l + (q - coef l w) * f w := by
  unfold setT
  by_cases h : (getT l w).isSome = true
  · rw [if_pos h, lin_map n (isSome_mem.mp h)]
  · rw [if_neg h, lin_append, coef_not fun z => h (isSome_mem.mpr z)]
    show linS f l + (q * f w + 0) = _
    grind
/-- THE look at an addition -/
theorem lin_add (n : (l.map (·.1)).Nodup) : linS f (addT l w q) = linS f l + q * f w := by
  unfold addT
  split
  · rename_i h
    rw [lin_del n]
    have : coef l w = -q := by grind
    rw [this]; grind
  · rw [lin_set n]; grind
theorem keys_set {α : Type} (l : List (Wd × α)) (w : Wd) (q : α) : (setT l w q).map (·.1) = if (getT l w).isSome = true then l.map (·.1) else l.map (·.1) ++ [w] := by
  unfold setT
  split
  · rw [List.map_map]
    refine List.map_congr_left fun p _ => ?_
    show (if p.1 = w then (p.1, q) else p).1 = p.1
    split <;> rfl
  · rw [List.map_append]; rfl
theorem nodup_set {α : Type} {l : List (Wd × α)} {w : Wd} {q : α} (n : (l.map (·.1)).Nodup) : ((setT l w q).map (·.1)).Nodup := by
  rw [keys_set]
  split
  · exact n
  · rename_i h
    refine List.nodup_append.mpr ⟨n, by simp, ?_⟩
    intro a ha b hb
    rw [List.mem_singleton.mp hb]
    exact fun z => h (isSome_mem.mpr (by rw [← z]; exact ha))
theorem nodup_del {α : Type} {l : List (Wd × α)} {w : Wd} (n : (l.map (·.1)).Nodup) : ((delT l w).map (·.1)).Nodup := by
  unfold delT
  exact n.sublist ((List.filter_sublist).map _)
theorem mem_set {α : Type} {l : List (Wd × α)} {w : Wd} {q : α} {p : Wd × α} (h : p ∈ setT l w q) : p = (w, q) ∨ p ∈ l := by
  unfold setT at h
  split at h
  · obtain ⟨x, hx, e⟩ := List.mem_map.mp h
    split at e
    · rename_i hw; subst hw; exact .inl e.symm
    · subst e; exact .inr hx
  · rcases List.mem_append.mp h with h | h
    · exact .inr h
    · exact .inl (List.mem_singleton.mp h)
theorem Good.add (g : Good l) (w : Wd) (q : Rat) : Good (addT l w q) := by
  unfold addT
  split
  · exact ⟨nodup_del g.nd, fun p hp => g.nz p (List.mem_filter.mp hp).1⟩
  · rename_i h
    refine ⟨nodup_set g.nd, fun p hp => ?_⟩
    rcases mem_set hp with e | hp
    · rw [e]; exact h
    · exact g.nz p hp
theorem set_len {α : Type} (l : List (Wd × α)) (w : Wd) (q : α) : (setT l w q).length ≤ l.length + 1 := by
  unfold setT
  split
  · rw [List.length_map]; omega
  · rw [List.length_append]; simp
theorem add_len (l : SumT) (w : Wd) (q : Rat) : (addT l w q).length ≤ l.length + 1 := by
  unfold addT
  split
  · have : (delT l w).length ≤ l.length := List.length_filter_le _ _
    omega
  · exact set_len _ _ _
/-- one word's look -/
def ind (w : Wd) : Wd → Rat := fun v => if v = w then 1 else 0
theorem lin_ind : ∀ {l : SumT}, (l.map (·.1)).Nodup → linS (ind w) l = coef l w
  | [], _ => rfl
  | p :: l, n => by
    rw [List.map_cons, List.nodup_cons] at n
    rw [coef_cons]
    show p.2 * ind w p.1 + linS (ind w) l = _
    rw [lin_ind n.2]
    unfold ind
    by_cases h : p.1 = w
    · rw [if_pos h, if_pos h, coef_not (by rw [← h]; exact n.1)]; grind
    · rw [if_neg h, if_neg h]; grind
theorem coef_add (n : Good l) : coef (addT l w q) v = coef l v + (if w = v then q else 0) := by
  rw [← lin_ind (n.add w q).nd, lin_add n.nd, lin_ind n.nd]
  unfold ind
  split <;> grind
theorem coef_mem (g : Good l) : w ∈ l.map (·.1) ↔ coef l w ≠ 0 := by
  constructor
  · intro h
    obtain ⟨p, hp, e⟩ := List.mem_map.mp h
    have : getT l w = some p.2 := getT_of_mem g.nd (by rw [← e]; exact hp)
    unfold coef
    rw [this]
    exact g.nz p hp
  · intro h
    exact Classical.byContradiction fun z => h (coef_not z)
theorem lin_perm (h : l.Perm m) : linS f l = linS f m := by
  induction h with
  | nil => rfl
  | cons p _ ih => show p.2 * f p.1 + linS f _ = p.2 * f p.1 + linS f _; rw [ih]
  | swap p q l => show q.2 * f q.1 + (p.2 * f p.1 + linS f l) = p.2 * f p.1 + (q.2 * f q.1 + linS f l); grind
  | trans _ _ a b => rw [a, b]
theorem lin_congr {g : Wd → Rat} : ∀ {l : SumT}, (∀ p ∈ l, f p.1 = g p.1) → linS f l = linS g l
  | [], _ => rfl
  | p :: l, h => by
    show p.2 * f p.1 + linS f l = p.2 * g p.1 + linS g l
    rw [h p List.mem_cons_self, lin_congr fun q hq => h q (List.mem_cons_of_mem _ hq)]
theorem lin_plus {g : Wd → Rat} : ∀ l : SumT, linS (fun v => f v + g v) l = linS f l + linS g l
  | [] => by show (0 : Rat) = 0 + 0; grind
  | p :: l => by
    show p.2 * (f p.1 + g p.1) + linS (fun v => f v + g v) l = p.2 * f p.1 + linS f l + (p.2 * g p.1 + linS g l)
    rw [lin_plus l]; grind
end

/-! ### the order of words -/
theorem ltN_self : ∀ l : Wd, ltN l l = false
  | [] => rfl
  | x :: l => by unfold ltN; rw [if_pos rfl]; exact ltN_self l
theorem ltN_asymm : ∀ a b : Wd, ltN a b = true → ltN b a = false
  | [], [], h => by cases h
  | [], _ :: _, _ => rfl
  | _ :: _, [], h => by cases h
  | x :: a, y :: b, h => by
    unfold ltN at h ⊢
    by_cases e : x = y
    · rw [if_pos e] at h
      rw [if_pos e.symm]
      exact ltN_asymm a b h
    · rw [if_neg e] at h
      rw [if_neg fun z => e z.symm]
      have := of_decide_eq_true h
      exact decide_eq_false (by omega)
theorem ltN_trans : ∀ a b c : Wd, ltN a b = true → ltN b c = true → ltN a c = true
  | a, [], _, h, _ => by
    have e : ltN a [] = false := by cases a <;> rfl
    rw [e] at h; cases h
  | _, _ :: _, [], _, h => by cases h
  | [], _ :: _, _ :: _, _, _ => rfl
  | x :: a, y :: b, z :: c, h1, h2 => by
    unfold ltN at h1 h2 ⊢
    by_cases e1 : x = y
    · rw [if_pos e1] at h1
      by_cases e2 : y = z
      · rw [if_pos e2] at h2
        rw [if_pos (e1.trans e2)]
        exact ltN_trans a b c h1 h2
      · rw [if_neg e2] at h2
        rw [if_neg (by rw [e1]; exact e2), e1]
        exact h2
    · rw [if_neg e1] at h1
      have q1 := of_decide_eq_true h1
      by_cases e2 : y = z
      · rw [if_neg (by rw [← e2]; exact e1), ← e2]; exact h1
      · rw [if_neg e2] at h2
        have q2 := of_decide_eq_true h2
        rw [if_neg (by omega)]
        exact decide_eq_true (by omega)
theorem ltN_total : ∀ a b : Wd, ltN a b = false → ltN b a = false → a = b
  | [], [], _, _ => rfl
  | [], _ :: _, h, _ => by cases h
  | _ :: _, [], _, h => by cases h
  | x :: a, y :: b, h1, h2 => by
    unfold ltN at h1 h2
    by_cases e : x = y
    · rw [if_pos e] at h1
      rw [if_pos e.symm] at h2
      rw [e, ltN_total a b h1 h2]
    · rw [if_neg e] at h1
      rw [if_neg fun z => e z.symm] at h2
      have := of_decide_eq_false h1
      have := of_decide_eq_false h2
      omega
theorem rkLt_self (a : Wd) : rkLt a a = false := by unfold rkLt; rw [if_pos rfl]; exact ltN_self a
theorem rkLt_asymm {a b : Wd} (h : rkLt a b = true) : rkLt b a = false := by
  unfold rkLt at h ⊢
  by_cases e : a.length = b.length
  · rw [if_pos e] at h
    rw [if_pos e.symm]
    exact ltN_asymm a b h
  · rw [if_neg e] at h
    rw [if_neg fun z => e z.symm]
    have := of_decide_eq_true h
    exact decide_eq_false (by omega)
theorem rkLt_trans {a b c : Wd} (h1 : rkLt a b = true) (h2 : rkLt b c = true) : rkLt a c = true := by
  unfold rkLt at h1 h2 ⊢
  by_cases e1 : a.length = b.length
  · rw [if_pos e1] at h1
    by_cases e2 : b.length = c.length
    · rw [if_pos e2] at h2
      rw [if_pos (e1.trans e2)]
      exact ltN_trans a b c h1 h2
    · rw [if_neg e2] at h2
      have q2 := of_decide_eq_true h2
      rw [if_neg (by omega)]
      exact decide_eq_true (by omega)
  · rw [if_neg e1] at h1
    have q1 := of_decide_eq_true h1
    by_cases e2 : b.length = c.length
    · rw [if_neg (by omega)]
      exact decide_eq_true (by omega)
    · rw [if_neg e2] at h2
      have q2 := of_decide_eq_true h2
      rw [if_neg (by omega)]
      exact decide_eq_true (by omega)
theorem rkLt_total {a b : Wd} (h1 : rkLt a b = false) (h2 : rkLt b a = false) : a = b := by
  unfold rkLt at h1 h2
  by_cases e : a.length = b.length
  · rw [if_pos e] at h1
    rw [if_pos e.symm] at h2
    exact ltN_total a b h1 h2
  · rw [if_neg e] at h1
    rw [if_neg fun z => e z.symm] at h2
    have := of_decide_eq_false h1
    have := of_decide_eq_false h2
    omega
theorem rkLe_trans (a b c : Wd) (h1 : rkLe a b = true) (h2 : rkLe b c = true) : rkLe a c = true := by
  unfold rkLe at h1 h2 ⊢
  have e1 : rkLt b a = false := by simpa using h1
  have e2 : rkLt c b = false := by simpa using h2
  cases h : rkLt c a with
  | false => rfl
  | true =>
    exfalso
    cases hab : rkLt a b with
    | true => rw [rkLt_trans h hab] at e2; cases e2
    | false =>
      have := rkLt_total hab e1
      subst this
      rw [h] at e2; cases e2
theorem rkLe_total (a b : Wd) : (rkLe a b || rkLe b a) = true := by
  unfold rkLe
  cases h : rkLt b a with
  | false => simp
  | true => rw [rkLt_asymm h]; simp
/-- sorted without doubles: each less than the next -/
def Rising (l : List Wd) : Prop := l.Pairwise fun a b => rkLt a b = true
theorem Rising.nodup {l : List Wd} (h : Rising l) : l.Nodup := h.imp fun {a b} q z => by subst z; rw [rkLt_self] at q; cases q
theorem rising_sort {l : List Wd} (n : l.Nodup) : Rising (l.mergeSort rkLe) := by
  have p := List.pairwise_mergeSort (le := rkLe) rkLe_trans rkLe_total l
  have n' : (l.mergeSort rkLe).Nodup := (List.mergeSort_perm l rkLe).nodup_iff.mpr n
  refine (List.Pairwise.and p n').imp fun {a b} q => ?_
  obtain ⟨h, ne⟩ := q
  unfold rkLe at h
  have h : rkLt b a = false := by simpa using h
  cases e : rkLt a b with
  | true => rfl
  | false => exact (ne (rkLt_total e h)).elim
/-- rising lists of the same words are one -/
theorem rising_eq : ∀ {a b : List Wd}, Rising a → Rising b → (∀ w, w ∈ a ↔ w ∈ b) → a = b
  | [], [], _, _, _ => rfl
  | [], y :: b, _, _, h => by have := (h y).mpr List.mem_cons_self; cases this
  | x :: a, [], _, _, h => by have := (h x).mp List.mem_cons_self; cases this
  | x :: a, y :: b, ha, hb, h => by
    have ha' := List.pairwise_cons.mp ha
    have hb' := List.pairwise_cons.mp hb
    have e : x = y := by
      rcases List.mem_cons.mp ((h x).mp List.mem_cons_self) with e | hx
      · exact e
      · rcases List.mem_cons.mp ((h y).mpr List.mem_cons_self) with e | hy
        · exact e.symm
        · have q1 := hb'.1 x hx
          have q2 := ha'.1 y hy
          rw [rkLt_asymm q1] at q2; cases q2
    subst e
    rw [rising_eq ha'.2 hb'.2 fun w => ?_]
    constructor
    · intro hw
      rcases List.mem_cons.mp ((h w).mp (List.mem_cons_of_mem _ hw)) with e | hw2
      · subst e; have := ha'.1 w hw; rw [rkLt_self] at this; cases this
      · exact hw2
    · intro hw
      rcases List.mem_cons.mp ((h w).mpr (List.mem_cons_of_mem _ hw)) with e | hw2
      · subst e; have := hb'.1 w hw; rw [rkLt_self] at this; cases this
      · exact hw2
/-- the told sum of a table -/
def toldT (l : SumT) : SumT := ((l.map (·.1)).mergeSort rkLe).map fun w => (w, coef l w)
theorem told_keys (l : SumT) : (toldT l).map (·.1) = (l.map (·.1)).mergeSort rkLe := by
  unfold toldT
  rw [List.map_map]
  exact List.map_id _
theorem told_perm {l : SumT} (n : (l.map (·.1)).Nodup) : (toldT l).Perm l := by
  unfold toldT
  have p := (List.mergeSort_perm (l.map (·.1)) rkLe).map fun w => (w, coef l w)
  rw [List.map_map] at p
  refine p.trans ?_
  have e : l.map ((fun w => (w, coef l w)) ∘ fun p => p.1) = l := by
    conv => rhs; rw [← List.map_id l]
    refine List.map_congr_left fun p hp => ?_
    show (p.1, coef l p.1) = p
    unfold coef
    rw [getT_of_mem n (q := p.2) hp]
    rfl
  rw [e]
/-- a sum as it is told -/
structure Sm (l : SumT) : Prop where
  up : Rising (l.map (·.1))
  nz : ∀ p ∈ l, p.2 ≠ 0
theorem Sm.good {l : SumT} (h : Sm l) : Good l := ⟨h.up.nodup, h.nz⟩
theorem Good.told {l : SumT} (g : Good l) : Sm (toldT l) := ⟨by rw [told_keys]; exact rising_sort g.nd, fun p hp => g.nz p ((told_perm g.nd).mem_iff.mp hp)⟩
theorem lin_told {l : SumT} {f : Wd → Rat} (g : Good l) : linS f (toldT l) = linS f l := lin_perm (told_perm g.nd)
theorem coef_told {l : SumT} (g : Good l) (w : Wd) : coef (toldT l) w = coef l w := by rw [← lin_ind g.told.good.nd, lin_told g, lin_ind g.nd]
/-- sums that look alike are one -/
theorem sm_eq {a b : SumT} (ha : Sm a) (hb : Sm b) (h : ∀ f, linS f a = linS f b) : a = b := by
  have hc : ∀ w, coef a w = coef b w := fun w => by rw [← lin_ind ha.good.nd, ← lin_ind hb.good.nd, h]
  have hk : a.map (·.1) = b.map (·.1) := rising_eq ha.up hb.up fun w => by rw [coef_mem ha.good, coef_mem hb.good, hc]
  have key : ∀ {l : SumT}, Good l → l = (l.map (·.1)).map fun w => (w, coef l w) := fun {l} g => by
    rw [List.map_map]
    conv => lhs; rw [← List.map_id l]
    refine List.map_congr_left fun p hp => ?_
    show p = (p.1, coef l p.1)
    unfold coef
    rw [getT_of_mem g.nd (q := p.2) hp]
    rfl
  rw [key ha.good, key hb.good, hk]
  exact List.map_congr_left fun w _ => by rw [hc]
end SW

set_option maxRecDepth 100000
/-! SW23: more of loops. -/
namespace SW
open PySem PySem.Spec PyProof.Rows L2
end SW

set_option maxRecDepth 100000
/-! SW24: sorted(e) without a key, x.pop(i). -/
namespace SW
open PySem PySem.Spec PyProof.Rows L2
open PySem.W (EachIs dataLe AllAlike Sortable alike)

/-! ### tuples among which some are empty -/
section
open PySem.SeqAt PySem.W
variable {prog : Program} {w : World} {A : Around} {E : Value → Shared → Prop} {s : Shared}
variable {M : Model}
end
section
variable {X : Cx}
variable {W : WX} {os os1 : Os} {e : Expr} {f : Rho → Out (D × Rho)} {pos p : Pos}
/-! x.pop(i) -/
theorem AtL.erase {K : PySem.W.Frag} {S : Hp} : ∀ {vs : List V} {ds : List D} (k : Nat), AtL K S vs ds → AtL K S (vs.eraseIdx k) (ds.eraseIdx k)
  | _, _, _, .nil => .nil
  | _, _, 0, .cons h t => t
  | _, _, k + 1, .cons h t => .cons h (AtL.erase k t)
end
end SW

set_option maxRecDepth 100000
/-! SW25: dict(list of pairs). -/
namespace SW
open PySem PySem.Spec PyProof.Rows L2

/-- one pair on the heap -/
structure Pz where
  k : NestedKey
  b : Addr
  v : V
  u : Value
  t : Addr
def pairD : D → Option (NestedKey × D)
  | .tup [kd, vd] => (keyT kd).map fun k => (k, vd)
  | _ => none
def pairsD : List D → Option (List (NestedKey × D))
  | [] => some []
  | d :: ds => match pairD d, pairsD ds with
    | some p, some ps => some (p :: ps)
    | _, _ => none
def putAll (ps : List (NestedKey × D)) (acc : List (NestedKey × D)) : List (NestedKey × D) := ps.foldl (fun a p => putD a p.1 p.2) acc
def dictD : D → Option D
  | .lst ds => (pairsD ds).map fun ps => .dct (putAll ps [])
  | _ => none
section
variable {X : Cx} {pins : List (Addr × Obj)} {σ : L2.St} {S H : Hp} {s : Shared}
structure PzOk (X : Cx) (S : Hp) (s : Shared) (z : Pz) (p : NestedKey × D) : Prop where
  k : z.k = p.1
  hk : At X.K S (.ref z.b) (keyB p.1)
  kt : keyT (keyB p.1) = some p.1
  hv : At X.K S z.v p.2
  rv : RelV z.v z.u
  tp : s.heap.IsTuple z.t #[.ref z.b, z.u]
theorem pair_tup {d : D} {p : NestedKey × D} (h : pairD d = some p) : ∃ kd vd, d = .tup [kd, vd] ∧ keyT kd = some p.1 ∧ p.2 = vd := by
  unfold pairD at h
  split at h
  · rename_i kd vd
    generalize hk : keyT kd = o at h
    cases o with
    | none => cases h
    | some k => cases h; exact ⟨kd, vd, rfl, hk, rfl⟩
  · cases h
theorem at_tup {K : PySem.W.Frag} {S : Hp} {v : V} {ds : List D} (h : At K S v (.tup ds)) : ∃ a vs, v = .ref a ∧ SqT K S a vs ∧ AtL K S vs ds := by
  cases h with
  | tup h z r => exact ⟨_, _, rfl, h, r⟩
theorem atl2 {K : PySem.W.Frag} {S : Hp} {vs : List V} {d e : D} (h : AtL K S vs [d, e]) : ∃ x y, vs = [x, y] ∧ At K S x d ∧ At K S y e := by
  cases h with
  | cons h1 t =>
    cases t with
    | cons h2 t2 => cases t2; exact ⟨_, _, rfl, h1, h2⟩
theorem rv2 {x y : V} {us : List Value} (h : Vals [x, y] us) : ∃ u w, us = [u, w] ∧ RelV x u ∧ RelV y w := by
  cases h with
  | cons h1 t =>
    cases t with
    | cons h2 t2 => cases t2; exact ⟨_, _, rfl, h1, h2⟩
theorem pget {α β : Type} {F : α → β → Prop} : ∀ {l : List α} {m : List β} {j : Nat} {a : α}, Paired F l m → l[j]? = some a → ∃ b, F a b
  | _, _, _, _, .nil, h => by simp at h
  | _, _, 0, _, .cons h _, e => by cases (show some _ = some _ by simpa using e); exact ⟨_, h⟩
  | _, _, j + 1, _, .cons _ t, e => pget t (j := j) (by simpa using e)
theorem pz_one (I : Inv X pins σ H s) (sub : Same S H) {v : V} {d : D} {u : Value} {p : NestedKey × D} (hat : At X.K S v d) (r : RelV v u) (h : pairD d = some p) : ∃ z, u = .ref z.t ∧ PzOk X S s z p := by
  obtain ⟨kd, vd, rfl, hk, hv⟩ := pair_tup h
  obtain ⟨a, vs, rfl, hs, rr⟩ := at_tup hat
  obtain ⟨kv, vv, rfl, hkv, hvv⟩ := atl2 rr
  obtain ⟨b, rfl, hb⟩ := at_key hkv hk
  obtain ⟨its, rv, ht, hz⟩ := I.tuple (sqT_mono sub hs)
  obtain ⟨bu, vu, rfl, rb, ru⟩ := rv2 rv
  obtain rfl : bu = Value.ref b := rb
  obtain rfl : u = Value.ref a := r
  exact ⟨⟨p.1, b, vv, vu, a⟩, rfl, ⟨rfl, hb, keyT_back hk, by rw [hv]; exact hvv, ru, ht⟩⟩
theorem pz_all (I : Inv X pins σ H s) (sub : Same S H) : ∀ {vs : List V} {ds : List D} {us : List Value} {ps : List (NestedKey × D)}, AtL X.K S vs ds → Vals vs us → pairsD ds = some ps → ∃ zs : List Pz, us = zs.map (fun z => .ref z.t) ∧ Paired (PzOk X S s) zs ps
  | _, _, _, _, .nil, .nil, h => by cases h; exact ⟨[], rfl, .nil⟩
  | _, _, _, _, .cons h1 t1, .cons h2 t2, h => by
    unfold pairsD at h
    split at h
    · rename_i p ps e1 e2
      cases h
      obtain ⟨z, rfl, hz⟩ := pz_one I sub h1 h2 e1
      obtain ⟨zs, rfl, hzs⟩ := pz_all I sub t1 t2 e2
      exact ⟨z :: zs, rfl, .cons hz hzs⟩
    · cases h
def storeAllX (zs : List Pz) (acc : XL) : XL := zs.foldl (fun a z => storeX a z.k z.b z.v) acc
theorem xr_all : ∀ (zs : List Pz) {xs : XL} {ys : List (NestedKey × Addr × Value)}, (∀ z ∈ zs, RelV z.v z.u) → XR xs ys → XR (storeAllX zs xs) (storedAllH ys (zs.map fun z => (z.k, z.b, z.u)))
  | [], _, _, _, r => r
  | z :: zs, _, _, h, r => xr_all zs (fun y hy => h y (List.mem_cons_of_mem _ hy)) (r.store z.k z.b (h z List.mem_cons_self))
theorem xd_all : ∀ {zs : List Pz} {ps : List (NestedKey × D)}, Paired (PzOk X S s) zs ps → ∀ {xs : XL} {ds : List (NestedKey × D)}, XD X.K S xs ds → (∀ p ∈ xs, keyT (keyB p.1) = some p.1) → XD X.K S (storeAllX zs xs) (putAll ps ds) ∧ ∀ p ∈ storeAllX zs xs, keyT (keyB p.1) = some p.1
  | _, _, .nil, _, _, r, hk => ⟨r, hk⟩
  | _, _, .cons h t, _, _, r, hk => by
    exact xd_all t (show XD X.K S (storeX _ _ _ _) (putD _ _ _) from by rw [h.k]; exact XD.store r h.hk h.hv) (store_kk hk (by rw [h.k]; exact h.kt))
theorem putAll_len : ∀ (ps ds : List (NestedKey × D)), (putAll ps ds).length ≤ ds.length + ps.length
  | [], _ => Nat.le_refl _
  | p :: ps, ds => by
    have := putAll_len ps (putD ds p.1 p.2)
    have := putD_len ds p.1 p.2
    rw [List.length_cons]
    show (putAll ps (putD ds p.1 p.2)).length ≤ _
    omega
theorem pairsD_len : ∀ {ds : List D} {ps : List (NestedKey × D)}, pairsD ds = some ps → ps.length = ds.length
  | [], _, h => by cases h; rfl
  | d :: ds, ps, h => by
    unfold pairsD at h
    split at h
    · rename_i p ps e1 e2
      cases h
      rw [List.length_cons, List.length_cons, pairsD_len e2]
    · cases h
def rDictL (K : PySem.W.Frag) : List V → Hp → VK → Prop := fun vs H Q => ∃ x S ds ps, vs = [x] ∧ Same S H ∧ At K S x (.lst ds) ∧ pairsD ds = some ps ∧
  ∀ p y xs, H p = none → NewX p xs y → XD K S xs (putAll ps []) → (∀ q ∈ xs, keyT (keyB q.1) = some q.1) → Q (.ref p) (upd H p (DT p y))
theorem call_dictL (hcalm : X.calm = true) (hu : X.A.units + 64 < cLine) : CallR X (.type "dict") (rDictL X.K) := by
  intro pins s σ H xs us Q I r h
  obtain ⟨x, S, ds, ps, rfl, sub, hat, hps, q⟩ := h
  obtain ⟨u, rfl, rx⟩ := vals1 r
  cases hat with
  | @lst a vs _ hs z rr =>
    obtain ⟨its, rv, pl, hz⟩ := I.list (SqL.of (K := X.K) (sub _ _ hs))
    obtain ⟨zs, rfl, hzs⟩ := pz_all I sub rr rv hps
    obtain rfl : u = Value.ref a := rx
    have lz : zs.length = ps.length := hzs.length
    have hzl : zs.length ≤ sizeLine := by rw [lz, pairsD_len hps]; exact z
    have hpi : PairItems s.heap (zs.map (fun z => Value.ref z.t)).toArray (fun j => (zs.map (·.t)).getD j 0) (zs.map fun z => (Value.ref z.b, z.u)) := by
      refine ⟨by simp, fun j k v hj => ?_⟩
      rw [List.getElem?_map] at hj
      cases hz2 : zs[j]? with
      | none => rw [hz2] at hj; cases hj
      | some y =>
        rw [hz2] at hj
        cases hj
        have et : (zs.map (·.t)).getD j 0 = y.t := by rw [List.getD_eq_getElem?_getD, List.getElem?_map, hz2]; rfl
        refine ⟨?_, ?_⟩
        · rw [List.getElem?_toArray, List.getElem?_map, hz2]
          show some (Value.ref y.t) = some (Value.ref ((zs.map (·.t)).getD j 0))
          rw [et]
        · show PairAt s.heap ((zs.map (·.t)).getD j 0) _ _
          rw [et]
          obtain ⟨p, ok⟩ := pget hzs hz2
          exact .inl ok.tp
    have hall : ∀ y ∈ zs, ∃ p, PzOk X S s y p := fun y hy => by
      obtain ⟨j, hj⟩ := List.getElem?_of_mem hy
      obtain ⟨p, ok⟩ := pget hzs hj
      exact ⟨p, ok⟩
    have hnew := I.hok.fresh (Nat.le_refl s.heap.objs.size)
    refine call_dict_pairsH (knd := nestedKind X.prog X.w) (ps := zs.map fun z => (z.k, z.b, z.u)) (PairArg.list a (zs.map (fun z => Value.ref z.t)).toArray (fun j => (zs.map (·.t)).getD j 0) (zs.map fun z => (Value.ref z.b, z.u))) (I.ok.hd hcalm) (by show X.A.units + 1 + 1 + 8 < cLine; omega) ⟨(let ⟨o, m, e, c, d, q⟩ := pl; ⟨o, m, e, c, d, q⟩), hpi⟩ ⟨by simp, fun i key v hr => ?_⟩ (fun h' hk p hp => ?_) (by rw [List.length_map]; exact hzl) fun h' tk dd hk => ?_
    · have hr : (zs.map fun z => (Value.ref z.b, z.u))[i]? = some (key, v) := hr
      rw [List.getElem?_map] at hr
      cases hz2 : zs[i]? with
      | none => rw [hz2] at hr; cases hr
      | some y =>
        rw [hz2] at hr
        cases hr
        exact ⟨y.k, y.b, by rw [List.getElem?_map, hz2]; rfl, rfl⟩
    · obtain ⟨y, hy, rfl⟩ := List.mem_map.mp hp
      obtain ⟨p, ok⟩ := hall y hy
      have I' : Inv X pins σ H { s with heap := h' } := I.kept (t' := s.toks) fun b o e => hk b o (Nat.ne_of_lt (Heap.lt_size e)) (by simp) e
      have ki := KeyAt.is I' (show KeyAt X.K H y.b p.1 from ⟨S, _, sub, ok.hk, ok.kt⟩)
      rw [← ok.k] at ki
      exact ki
    · obtain ⟨r2, kk⟩ := xd_all hzs (xs := []) (ds := []) .nil (fun p hp => by cases hp)
      have xr := xr_all zs (xs := []) (ys := []) (fun y hy => let ⟨p, ok⟩ := hall y hy; ok.rv) .nil
      obtain ⟨y, hn, hy⟩ := new_x (X := X) (a := s.heap.objs.size) (beq_eq_false_iff_ne.mpr (Ne.symm (Nat.ne_of_lt I.big))) dd xr (fun p hp => let ⟨_, _, e, _⟩ := keyT_some (kk p hp); keyD_free e)
      exact ⟨.ref s.heap.objs.size, _, I.laid (a := s.heap.objs.size) (o := DT s.heap.objs.size y) (t' := tk) (fun b o e => hk b o (by simp) e) (Nat.le_refl _) (dt_ok hy), rfl, q _ y _ hnew hn r2 kk⟩
variable {W : WX} {os os1 : Os} {e : Expr} {f : Rho → Out (D × Rho)} {pos p : Pos}
def eDictL (f : Rho → Out (D × Rho)) : Rho → Out (D × Rho) := fun ρ => (f ρ).bind fun p => (Out.of (dictD p.1)).bind fun c => .ok (c, p.2)
theorem ve_dictL (hu : X.A.units + 64 < cLine) (ha : VE X W os e f os1 false) (hm : X.mg "dict" = none) (hc : X.calm = true := by rfl)
    (hg : Gl X "dict" := by rfl) (he1 : starEach [e] X.env = (false, eval e X.env) :: starEach [] X.env := by rfl) (hpl : (backTo pos (starEach [] X.env)).any (·.1) = false := by rfl) :
    VE X W os (.Call (.Name "dict" p) [e] [] pos) (eDictL f) os1 true := by
  obtain ⟨ta, pa, ka⟩ := ha
  refine ⟨_, pe_callTy (call_dictL hc hu) hg hm (by decide +kernel) (pa_cons pa pa_nil he1) (by decide) (by decide) he1 hpl, fun S σ H ρ Q rel P => ?_⟩
  refine ka S σ H ρ _ rel (Post.seq P (fun z => z) (fun c fs p => p) fun d ρ1 v S1 H1 st1 rel1 q1 P1 => ?_)
  have P1 := P1.step RV.ok st1
  dsimp only at P1
  cases d with
  | lst ds =>
    have P1 : Post X W S1 H1 os1 σ os1 (RV X.K true) Q ((Out.of ((pairsD ds).map fun ps => D.dct (putAll ps []))).bind fun c => .ok (c, ρ1)) := P1
    cases hs : pairsD ds with
    | none => rw [hs] at P1; exact P1.elim
    | some ps =>
      rw [hs] at P1
      have q1 : At X.K S1 v (.lst ds) := q1
      refine ⟨v, S1, ds, ps, rfl, rel1.sub, q1, hs, fun l y xs nl hn hxd hk => ?_⟩
      have xx := Ext.newO (O := fun _ => False) (o := DT l y) rel1.sub nl
      obtain ⟨t, r⟩ := hn.tok hxd hk
      have hz : (putAll ps []).length ≤ sizeLine := by
        have h1 := putAll_len ps []
        rw [pairsD_len hs, List.length_nil, Nat.zero_add] at h1
        refine Nat.le_trans h1 ?_
        cases q1 with
        | lst _ z _ => exact z
      exact P1 (.ref l) S1 _ (Stp.of_ext xx) (rel1.ext0 xx) ⟨.mkX (rel1.sub.free nl) upd_same t hz r, fun a e => by cases e; exact nl⟩
  | _ => exact P1.elim
end
end SW

set_option maxRecDepth 100000
/-! SW26: x[::-1] of lists. -/
namespace SW
open PySem PySem.Spec PyProof.Rows L2
section
variable {X : Cx} {W : WX} {os os1 os2 : Os} {e st : Expr} {f fs : Rho → Out (D × Rho)} {pos p2 : Pos} {te : TE} {ts : TO}
end
end SW

set_option maxRecDepth 100000
/-! SW27: raise C(); try: x = e, except C as n: y = n. -/
namespace SW
open PySem PySem.Spec PyProof.Rows L2
/-- what is known of an error's class -/
structure ExF (K : PySem.W.Frag) (mg : Str → Option Value) (x : Str) (C : Addr) : Prop where
  g : mg x = some (.ref C)
  k : PySem.W.keepIn K (.ref C) = true
  e : PySem.W.excIn K C vBase "ValueError.__new__" = true
  s : PySem.W.subIn K (.ref C) (.type "BaseException") = some true
  t : PySem.W.typeIn K (.ref C) = some (.type "type")
section
variable {X : Cx} {W : WX} {L : Lc} {os os1 : Os} {pos p cp : Pos} {x : Str} {C : Addr}
/-! ### try -/
theorem Rel.none {K : PySem.W.Frag} {S H : Hp} {σ : Sg} {ρ : Rho} (r : Rel K S H os σ ρ) (i : Nat) (hi : os.getD i false = false) : Rel K S H os (σ.set i none) (ρ.set i none) where
  sub := r.sub
  len := by rw [List.length_set, List.length_set]; exact r.len
  slot := fun j x d e1 e2 => by
    by_cases hj : i = j
    · subst hj
      have h1 := (List.getElem?_eq_some_iff.mp e1).1
      have h2 := (List.getElem?_eq_some_iff.mp e2).1
      rw [List.length_set] at h1 h2
      rw [List.getElem?_set_self h1] at e1
      rw [List.getElem?_set_self h2] at e2
      cases e1; cases e2
      cases os.getD i false <;> trivial
    · rw [List.getElem?_set_ne hj] at e1 e2
      exact r.slot j x d e1 e2
  sep := fun j k a h1 h2 e1 e2 => by
    have hj : i ≠ j := fun z => by subst z; rw [hi] at h1; cases h1
    have hk : i ≠ k := fun z => by subst z; rw [hi] at h2; cases h2
    rw [List.getElem?_set_ne hj] at e1
    rw [List.getElem?_set_ne hk] at e2
    exact r.sep j k a h1 h2 e1 e2
end
end SW

set_option maxRecDepth 100000
/-! SW28: isinstance of a kept error; l.index(x). -/
namespace SW
open PySem PySem.Spec PyProof.Rows L2
section
variable {X : Cx} {W : WX} {os os1 os2 : Os} {e ec e2 : Expr} {f f2 : Rho → Out (D × Rho)} {pos p : Pos}
/-! l.index(x) -/
end
end SW

set_option maxRecDepth 100000
/-! SW29: instances of a class: attributes, methods, making, storing; a call that borrows. -/
namespace SW
open PySem PySem.Spec PyProof.Rows L2
section
variable {K : PySem.W.Frag} {S : Hp}
end
/-- what is known of a class -/
structure ClsF (K : PySem.W.Frag) (mg : Str → Option Value) (c : Str) (C : Addr) : Prop where
  g : mg c = some (.ref C)
  n : PySem.W.nsIn K mainGlobals c = some (some (.ref C))
  cl : Cls K C
section
variable {X : Cx} {W : WX} {os os1 os2 : Os} {e o : Expr} {es : List Expr} {f : Str} {fo : Rho → Out (D × Rho)} {g : Rho → Out (List D × Rho)} {pos apos p : Pos} {c m : Str} {C fa : Addr} {fd : FuncData} {ps : List Str} {k kk : Nat} {r : Bool} {sp : Sp} {E : L2.St → XK} {ta : TE} {t : TA}
/-! ### methods -/
end
end SW

set_option maxRecDepth 100000
/-! SW30: an instance is made; its attributes are stored; a call that borrows what a name owns. -/
namespace SW
open PySem PySem.Spec PyProof.Rows L2
section
variable {X : Cx} {W : WX} {L : Lc} {os os1 os2 : Os} {e o : Expr} {es : List Expr} {f : Str} {fe : Rho → Out (D × Rho)} {g : Rho → Out (List D × Rho)} {pos apos p : Pos} {c m x : Str} {C fa : Addr} {fd : FuncData} {ps : List Str} {k kk : Nat} {r : Bool} {sp : Sp} {E : L2.St → XK} {ta : TE} {t : TA}
/-! ### an attribute is stored -/
end
end SW

set_option maxRecDepth 100000
/-! SW31: a call that borrows an owned instance. -/
namespace SW
open PySem PySem.Spec PyProof.Rows L2
def cut (S : Hp) (a : Addr) : Hp := fun b => if b = a then none else S b
section
variable {K : PySem.W.Frag} {S : Hp} {a C dx : Addr} {fv : List (Str × V)}
end
section
variable {X : Cx} {W : WX} {os : Os} {pos p p0 : Pos} {k kk : Nat} {fa : Addr} {fd : FuncData} {ps : List Str}
end
end SW

set_option maxRecDepth 100000
/-! SW32: chains of three comparisons; errors with a field: raise C(e), isinstance, err.f. -/
namespace SW
open PySem PySem.Spec PyProof.Rows L2
section
variable {X : Cx} {W : WX} {L : Lc} {os os1 os2 : Os} {e e1 e2 e3 e4 ec : Expr} {f f1 f2 f3 f4 : Rho → Out (D × Rho)} {pos p cp : Pos} {a b c d : Expr} {ta tb tc td : TE}
/-! ### a op1 b op2 c op3 d -/
/-! ### raise C(e) -/
/-- what is known of an error's class with a field -/
structure ErF (K : PySem.W.Frag) (mg : Str → Option Value) (c f : Str) (C fa : Addr) : Prop where
  g : mg c = some (.ref C)
  n : PySem.W.nsIn K mainGlobals c = some (some (.ref C))
  t : OexC K C
  i : PySem.W.findIn K (.ref C) "__init__" = some (some (.ref fa))
  ft : PySem.W.typeIn K (.ref fa) = some (.type "function")
  no : PySem.W.findIn K (.ref C) f = some none
end
end SW

set_option maxRecDepth 100000
/-! SW33: errors with a field: their __init__, isinstance, err.f. -/
namespace SW
open PySem PySem.Spec PyProof.Rows L2
section
variable {P : Program} {w : World} {K : PySem.W.Frag} {mg : Str → Option Value} {base : Heap}
end
section
variable {X : Cx} {W : WX} {os os1 os2 : Os} {e ec e2 : Expr} {f f2 : Rho → Out (D × Rho)} {pos p : Pos}
/-! ### err.f -/
end
end SW

set_option maxRecDepth 100000
/-! SW34: try: e, except C as n: y = n. -/
namespace SW
open PySem PySem.Spec PyProof.Rows L2
section
variable {X : Cx} {W : WX} {L : Lc} {os os1 : Os} {pos p cp : Pos} {x : Str} {C : Addr}
end
end SW

set_option maxRecDepth 100000
/-! SW35: equations for mirrors: statements in turn, dicts with pairs as keys, sorted pairs, enumerate. -/
namespace SW
open PySem PySem.Spec PyProof.Rows L2
/-! statements in turn -/
section
variable {a b : Rho → Out Fl} {ρ ρ1 : Rho} {d : D}
theorem seq_nx (h : a ρ = .ok (.nx ρ1)) : sSeq a b ρ = b ρ1 := by unfold sSeq; rw [h, bind_ok]
end
/-! dicts with pairs as keys -/
abbrev Pr := Nat × Nat
def pk (p : Pr) : List Int := [((p.1 : Nat) : Int), ((p.2 : Nat) : Int)]
section
variable {α : Type}
end
/-! sorted words, sorted pairs -/
/-! enumerate, indexes -/
/-! a loop over the first numbers -/
/-! an error's class with a field of its own, looked at by one truth -/
end SW

set_option maxRecDepth 100000
/-! SW36: the constants off the top's facts. -/
namespace SW
open PySem PySem.Spec PyProof.Rows L2
section
variable {fk : PySem.W.Frag → Bool} {fn : List He.FnD} {K : PySem.W.Frag} {h : Heap} {mg : Str → Option Value}
theorem konst_intB (X : K.In h) (G : h.Ns mainGlobals mg) {x : Str} {i : Int} (c : (He.Fa.int x i).ok K = true) : Konst K mg x (.int i) := by
  obtain ⟨t, e⟩ := He.int_ok X G c
  exact konst_int e
/-- a value of the top as data: no objects -/
def flatV : He.Dv → Option D
  | .non => some .non
  | .bl b => some (.bl b)
  | .int i => some (.int i)
  | .str x => some (.str x)
  | _ => none
theorem atL_flat {K : PySem.W.Frag} {S : Hp} : ∀ {vs : List He.Dv} {ds : List D}, vs.mapM flatV = some ds → AtL K S (vs.map (He.Dv.v K)) ds
  | [], ds, e => by
    simp only [List.mapM_nil, pure, Option.some.injEq] at e
    subst e
    exact .nil
  | v :: vs, ds, e => by
    simp only [List.mapM_cons, bind, Option.bind_eq_some_iff, pure, Option.some.injEq] at e
    obtain ⟨d, e1, ds', e2, rfl⟩ := e
    refine .cons ?_ (atL_flat e2)
    cases v with
    | non => cases e1; exact .non
    | bl b => cases e1; exact .bl b
    | int i => cases e1; exact .int i
    | str x => cases e1; exact .str x
    | _ => cases e1
theorem konst_tupB (X : K.In h) (G : h.Ns mainGlobals mg) {x : Str} {vs : List He.Dv} {ds : List D} (c : PySem.W.nsIn K mainGlobals x = some (some (.ref (He.ga K x)))) (hb : He.tupB K x vs = true) (hd : vs.mapM flatV = some ds) (hl : ds.length ≤ sizeLine) :
    Konst K mg x (.tup ds) := by
  unfold He.tupB at hb
  cases q : K.lookup (He.ga K x) with
  | none =>
    rw [q] at hb
    cases hb
  | some o =>
    obtain ⟨oc, od, dt, osl⟩ := o
    rw [q] at hb
    cases oc with
    | type cc =>
      cases dt with
      | seq its n =>
        obtain ⟨h1, h2⟩ := He.ba (show (decide (cc = "tuple") && (decide (its.size ≤ sizeLine) && He.relAll (vs.map (He.Dv.v K)) its.toList)) = true from hb)
        obtain ⟨h3, h4⟩ := He.ba h2
        exact konst_tup (PySem.W.mg_of X G c) q (congrArg Value.type (of_decide_eq_true h1)) rfl ⟨of_decide_eq_true h3, hl⟩ (He.relAll_ok h4) (atL_flat hd)
      | _ => cases hb
    | _ => cases dt <;> cases hb
end
/-- the same slots, said otherwise -/
theorem VSs.to {X : Cx} {W : WX} {L : Lc} {os o1 o2 : Os} {st : List Stmt} {g : Rho → Out Fl} (h : VSs X W L os st g o1) (e : o1 = o2 := by rfl) : VSs X W L os st g o2 := e ▸ h
end SW

set_option maxRecDepth 100000
/-! SW37: an owned list put together with another one: a new list; the owner keeps its own. -/
namespace SW
open PySem PySem.Spec PyProof.Rows L2
section
variable {X : Cx} {W : WX} {os os1 : Os} {e2 : Expr} {f2 : Rho → Out (D × Rho)} {pos p : Pos}
def eCatO (i : Nat) (f : Rho → Out (D × Rho)) : Rho → Out (D × Rho) := fun ρ => match ρ.getD i none with
  | some _ => (f ρ).bind fun q => match q.2.getD i none with
    | some d => (Out.of (catL d q.1)).bind fun c => .ok (c, q.2)
    | none => .stuck
  | none => .stuck
end
end SW

set_option maxRecDepth 100000
/-! SW38: x.insert(i, e) of an owned list. -/
namespace SW
open PySem PySem.Spec PyProof.Rows L2
section
variable {X : Cx}
end
end SW

set_option maxRecDepth 100000
/-! SW39: a look that gives tuples or a new list of them; a call whose turned argument is new, at any place. -/
namespace SW
open PySem PySem.Spec PyProof.Rows L2

mutual
/-- no list, no dict, no instance in it -/
def tokD : D → Bool
  | .non => true
  | .bl _ => true
  | .int _ => true
  | .str _ => true
  | .ty _ => true
  | .tup ds => tokL ds
  | _ => false
def tokL : List D → Bool
  | [] => true
  | d :: ds => tokD d && tokL ds
end
/-- no cell of a tuple is dropped -/
def NoTup (S : Hp) (O : Addr → Prop) : Prop := ∀ a vs, O a → (S a ≠ some (.tup vs) ∧ ∀ o, S a ≠ some (.frz o (.tup vs)))
section
variable {K : PySem.W.Frag} {S S2 : Hp} {O : Addr → Prop}
theorem sqT_drop {a : Addr} {vs : List V} (hn : NoTup S O) (h2 : ∀ a, ¬ O a → S2 a = S a) (h : SqT K S a vs) : SqT K S2 a vs := by
  rcases h with (h | ⟨o, h⟩) | h
  · exact .inl (.inl (by rw [h2 a fun z => (hn a vs z).1 h]; exact h))
  · exact .inl (.inr ⟨o, by rw [h2 a fun z => (hn a vs z).2 o h]; exact h⟩)
  · exact .inr h
mutual
theorem tok_drop (hn : NoTup S O) (h2 : ∀ a, ¬ O a → S2 a = S a) : ∀ {v : V} {d : D}, At K S v d → tokD d = true → At K S2 v d
  | _, _, .non, _ => .non
  | _, _, .bl b, _ => .bl b
  | _, _, .int i, _ => .int i
  | _, _, .str x, _ => .str x
  | _, _, .tup h z r, t => .tup (sqT_drop hn h2 h) z (tokL_drop hn h2 r (by unfold tokD at t; exact t))
  | _, _, .lst _ _ _, t => by unfold tokD at t; cases t
  | _, _, .dct _ _ _ _, t => by unfold tokD at t; cases t
  | _, _, .ins _ _ _ _ _, t => by unfold tokD at t; cases t
  | _, _, .exc0 _ _, t => by unfold tokD at t; cases t
  | _, _, .exc1 _ _ _ _, t => by unfold tokD at t; cases t
  | _, _, .scr _ _, t => by unfold tokD at t; cases t
  | _, _, .ty n h, _ => .ty n h
theorem tokL_drop (hn : NoTup S O) (h2 : ∀ a, ¬ O a → S2 a = S a) : ∀ {vs : List V} {ds : List D}, AtL K S vs ds → tokL ds = true → AtL K S2 vs ds
  | _, _, .nil, _ => .nil
  | _, _, .cons h r, t => by
    unfold tokL at t
    obtain ⟨t1, t2⟩ := Bool.and_eq_true_iff.mp t
    exact .cons (tok_drop hn h2 h t1) (tokL_drop hn h2 r t2)
end
end
section
variable {K : PySem.W.Frag} {S S' H H' S1 : Hp} {os : Os} {σ : Sg} {ρ : Rho}
theorem Rel.ownBody (r : Rel K S H os σ ρ) {a : Addr} (h : Own os σ a) : ∃ o d, H a = some o ∧ Body K S a o d := by
  obtain ⟨i, ho, hs⟩ := h
  have hl : i < ρ.length := by rw [← r.len]; exact (List.getElem?_eq_some_iff.mp hs).1
  have q := r.slot i _ _ hs (List.getElem?_eq_getElem hl)
  rw [ho] at q
  cases e : ρ[i] with
  | none => rw [e] at q; exact q.elim
  | some d =>
    rw [e] at q
    obtain ⟨b, eb, _, o, eh, bd⟩ := (show OwnAt K S H (.ref a) d from q)
    cases eb
    exact ⟨o, d, eh, bd⟩
theorem Look.noTup (lk : Look S H os σ S1) (r : Rel K S H os σ ρ) (e : Same S1 S') : NoTup S' (Own os σ) := fun a vs ho => by
  obtain ⟨o, d, eh, bd⟩ := r.ownBody ho
  have q := e a o ((lk.own a ho).trans eh)
  rw [q]
  cases bd <;> exact ⟨(fun z => by cases z), fun _ z => by cases z⟩
/-- behind a look: what was owned is owned again; what else stands, stands -/
theorem Look.backT (lk : Look S H os σ S1) (r : Rel K S H os σ ρ) (x : Ext (Own [] σ) S1 H S' H') : ∃ S2, (∀ a, ¬ Own os σ a → S2 a = S' a) ∧ (∀ a, Own os σ a → S2 a = none) ∧ Rel K S2 H' os σ ρ ∧ Stp os σ S H os σ S2 H' := by
  classical
  have h2 : ∀ a, ¬ Own os σ a → (fun a => if Own os σ a then none else S' a) a = S' a := fun a z => if_neg z
  have h3 : ∀ a, Own os σ a → (fun a => if Own os σ a then none else S' a) a = none := fun a z => if_pos z
  have s2 : Same S (fun a => if Own os σ a then none else S' a) := fun a o e => by
    have no : ¬ Own os σ a := fun z => by rw [(r.owned z).1] at e; cases e
    rw [h2 a no]
    exact x.s a o (lk.s a o e)
  have sh : Same (fun a => if Own os σ a then none else S' a) H' := fun a o e => by
    by_cases z : Own os σ a
    · rw [h3 a z] at e; cases e
    · rw [h2 a z] at e; exact x.sh a o e
  have keep : ∀ a o, Own os σ a → H a = some o → H' a = some o := fun a o z e => x.sh a o (x.s a o ((lk.own a z).trans e))
  refine ⟨_, h2, h3, ⟨sh, r.len, fun i v d e1 e2 => ?_, r.sep⟩, ⟨⟨s2, sh, fun a o e n no => ⟨?_, ?_⟩, x.there⟩, fun a q => .inl q⟩⟩
  · have q := r.slot i v d e1 e2
    cases ho : os.getD i false <;> rw [ho] at q <;> cases v <;> cases d <;> simp only [SlotAt] at q ⊢
    · exact q.mono s2
    · rename_i v d
      obtain ⟨a, ea, na, q⟩ := q
      subst ea
      have own : Own os σ a := ⟨i, ho, e1⟩
      obtain ⟨o, eh, bd⟩ := q
      exact ⟨a, rfl, h3 a own, o, keep a _ own eh, bd.mono s2⟩
  · exact (x.fr a o e ((lk.out a no).trans n) fun z => own_nil z).1
  · exact (h2 a no).trans (x.fr a o e ((lk.out a no).trans n) fun z => own_nil z).2
end
section
variable {X : Cx} {W : WX} {os os1 os2 : Os} {e : Expr} {es : List Expr} {f : Rho → Out (D × Rho)} {pos p : Pos}
def ePeekL (f : Rho → Out (D × Rho)) : Rho → Out (D × Rho) := fun ρ => (f ρ).bind fun p => match p.1 with
  | .lst ds => if tokL ds = true then .ok (.lst ds, ρ) else .stuck
  | _ => .stuck
/-- an expression that turns nothing and gives a new list of such -/
theorem ve_peekL (h : VE X W [] e f os1 true) (hos : os1 = [] := by rfl) : VE X W os e (ePeekL f) os true := by
  subst hos
  obtain ⟨t, p, k⟩ := h
  refine ⟨t, p, fun S σ H ρ Q rel P => ?_⟩
  obtain ⟨S1, lk, rel1⟩ := freezeAll rel
  refine k S1 σ H ρ Q rel1 ?_
  unfold ePeekL at P
  cases h : f ρ with
  | exc c fs => rw [h] at P; exact fun S' H' cls dd x q => P S' H' cls dd (lk.exc x) q
  | stuck => rw [h] at P; exact P.elim
  | ok z =>
    obtain ⟨d, ρ'⟩ := z
    rw [h] at P
    cases d with
    | lst ds =>
      have P : Post X W S H os σ os (RV X.K true) Q (if tokL ds = true then .ok (.lst ds, ρ) else .stuck) := P
      split at P
      · rename_i hf
        intro v S' H' st _ hv
        obtain ⟨S2, h2, h3, rel2, st2⟩ := lk.backT rel st.ext
        obtain ⟨⟨a, rfl, na, o, ea, bd⟩, fr⟩ := (show OwnAt X.K S' H' v (.lst ds) ∧ ∀ a, v = .ref a → H a = none from hv)
        have no : ¬ Own os σ a := fun z => by
          obtain ⟨o, d, eh, _⟩ := rel.ownBody z
          rw [fr a rfl] at eh; cases eh
        cases bd with
        | lst z r => exact P _ S2 H' st2 rel2 ⟨⟨a, rfl, (h2 a no).trans na, _, ea, .lst z (tokL_drop (lk.noTup rel st.ext.s) h2 r hf)⟩, fr⟩
      · exact P.elim
    | _ => exact P.elim
/-! a call whose turned argument, the k-th, is a new list or dict -/
def RLC (K : PySem.W.Frag) (n k : Nat) : RR (List D) (List V) := fun H S' H' vs ds => vs.length = n ∧ ds.length = n ∧ (∃ u du, vs[k]? = some u ∧ ds[k]? = some du ∧ OwnAt K S' H' u du ∧ ∀ a, u = .ref a → H a = none) ∧ ∀ j d, j ≠ k → ds[j]? = some d → ∃ v, vs[j]? = some v ∧ At K S' v d
theorem RLC.ok {K : PySem.W.Frag} {n k : Nat} : (RLC K n k).Ok := fun H H1 S' H' b d h q => by
  obtain ⟨q1, q2, ⟨u, du, q3, q4, q5, q6⟩, q7⟩ := q
  exact ⟨q1, q2, ⟨u, du, q3, q4, q5, fun a e => h a (q6 a e)⟩, q7⟩
end
end SW

set_option maxRecDepth 100000
/-! SW40: x[e] = a new list; x[y][z] = u: a store into a list within an owned list. -/
namespace SW
open PySem PySem.Spec PyProof.Rows L2

section
variable {X : Cx} {W : WX} {L : Lc} {os osN : Os} {e ie : Expr} {rest : List Stmt} {f fi : Rho → Out (D × Rho)} {g : Rho → Out Fl} {pos pos2 ps ps2 ps3 px px2 py pz pu : Pos}
end
end SW

set_option maxRecDepth 100000
/-! SW41: {k: v, ..}: a dict display whose keys are tuples. -/
namespace SW
open PySem PySem.Spec PyProof.Rows L2
section
variable {prog : Program} {w : World} {A : Around} {E : Value → Shared → Prop} {s : Shared} {K : Type} [DecidableEq K] {knd : HeapKind prog w K}
end
section
variable {X : Cx} {pins : List (Addr × Obj)} {σ : L2.St} {H : Hp} {s : Shared}
end
/-! the judgement -/
def flatP : List (V × V) → List V
  | [] => []
  | p :: r => p.1 :: p.2 :: flatP r
def RP (K : PySem.W.Frag) (n : Nat) : RR (List D) (List (V × V)) := fun _ S' _ ps ds => AtL K S' (flatP ps) ds ∧ ps.length = n
theorem RP.ok {K : PySem.W.Frag} {n : Nat} : (RP K n).Ok := fun _ _ _ _ _ _ _ q => q
section
variable {X : Cx} {W : WX} {os os1 os2 os3 : Os} {pos : Pos} {keys : List (Option Expr)} {values : List Expr} {k v : Expr} {f1 f2 : Rho → Out (D × Rho)} {g : Rho → Out (List D × Rho)}
end
end SW

set_option maxRecDepth 100000
/-! SW42: x = [..] read off what is owned, as a look. -/
namespace SW
open PySem PySem.Spec PyProof.Rows L2
section
variable {X : Cx} {W : WX} {L : Lc} {os os2 : Os} {f : Rho → Out (D × Rho)}
variable {tg iter elt : Expr} {ifs : List Expr} {scope : Scope} {own : List (Str × Nat)} {fi : Rho → Out (List D × Rho)} {b : D → Rho → Option Rho} {ch : List Nat} {tt : Rho → Out (Bool × Rho)} {fe : Rho → Out (D × Rho)} {pos : Pos}
end
end SW

set_option maxRecDepth 100000
/-! SW43: defs that turn their first two parameters. -/
namespace SW
open PySem PySem.Spec PyProof.Rows L2
abbrev os2 : Os := [true, true]
def m2 (ρ : Rho) : D × D := ((ρ.getD 0 none).getD .non, (ρ.getD 1 none).getD .non)
section
variable {P : Program} {w : World} {K : PySem.W.Frag} {mg : Str → Option Value} {base : Heap}
end
section
variable {X : Cx} {W : WX} {os : Os} {pos p : Pos}
end
end SW

set_option maxRecDepth 100000
set_option maxHeartbeats 2000000
/-! SW44: enumerate of a tuple. -/
namespace SW
open PySem PySem.Spec PyProof.Rows L2

section
variable {v : Value} {o : Obj} {B0 : Heap → Prop}
end
section
variable {X : Cx} {W : WX} {os os1 : Os} {e : Expr} {p pos : Pos}
end
end SW

set_option maxRecDepth 100000
/-! SW45: try: tests and calls, nothing stored; except C as n: y = n. -/
namespace SW
open PySem PySem.Spec PyProof.Rows L2
def RTr : RR D V := fun _ _ _ _ _ => True
section
variable {X : Cx} {W : WX} {os : Os} {pos : Pos} {e c : Expr} {f g : Rho → Out (D × Rho)} {gc : Rho → Out (Bool × Rho)} {a b : List Stmt}
theorem RTr.ok : RTr.Ok := fun _ _ _ _ _ _ _ q => q
end
section
variable {X : Cx} {W : WX} {L : Lc} {os : Os} {pos : Pos}
end
end SW

set_option maxRecDepth 100000
/-! SW46: an owned name compared with what a call that turns another one tells: the name owns its own still. -/
namespace SW
open PySem PySem.Spec PyProof.Rows L2
section
variable {X : Cx} {W : WX} {os os1 : Os} {e2 : Expr} {f2 : Rho → Out (D × Rho)} {pos p : Pos}
end
end SW

set_option maxRecDepth 100000
/-! SW47: dict(a dict), its keys' hashes apart. -/
namespace SW
open PySem PySem.Spec PyProof.Rows L2

section
variable {X : Cx}
variable {W : WX} {os os1 : Os} {e : Expr} {f : Rho → Out (D × Rho)} {pos p : Pos}
end
end SW

set_option maxRecDepth 100000
/-! SW48: the hashes of all words of at most five letters below four are apart. -/
namespace SW
open PySem PySem.Spec PyProof.Rows L2
end SW

set_option maxRecDepth 100000
/-! SW49: d != {} of an empty dict. -/
namespace SW
open PySem PySem.Spec PyProof.Rows L2
section
variable {X : Cx}
end
end SW

set_option maxRecDepth 100000
/-! SW50: defs that end with a list whose last item is new; a, b = f(..) with b its owner. -/
namespace SW
open PySem PySem.Spec PyProof.Rows L2
/-- a new list whose last item is owned, too -/
def LastAt (K : PySem.W.Frag) (S' H' : Hp) (v : V) (d : D) (new : Addr → Prop) : Prop :=
  ∃ a vs u ds o, v = .ref a ∧ d = .lst (ds ++ [o]) ∧ H' a = some (.lst (vs ++ [u])) ∧ AtL K S' vs ds ∧ OwnAt K S' H' u o ∧ ∀ b, u = .ref b → new b
def RVL (K : PySem.W.Frag) : RR D V := fun H S' H' v d => LastAt K S' H' v d fun a => H a = none
theorem LastAt.imp {K : PySem.W.Frag} {S H : Hp} {v : V} {d : D} {p q : Addr → Prop} (h : LastAt K S H v d p) (hpq : ∀ a, p a → q a) : LastAt K S H v d q := by
  obtain ⟨a, vs, u, ds, o, e1, e2, e3, e4, e5, e6⟩ := h
  exact ⟨a, vs, u, ds, o, e1, e2, e3, e4, e5, fun b e => hpq b (e6 b e)⟩
theorem RVL.ok {K : PySem.W.Frag} : (RVL K).Ok := fun H H1 S' H' b d h q => q.imp h
/-- a list's items, of which the last is new or what the slot o owns -/
def RLL (K : PySem.W.Frag) (n : Nat) (P : Addr → Prop) : RR (List D) (List V) := fun H S' H' vs ds => ∃ ws u es o, vs = ws ++ [u] ∧ ds = es ++ [o] ∧ AtL K S' ws es ∧ OwnAt K S' H' u o ∧ (∀ b, u = .ref b → P b ∨ H b = none) ∧ ds.length = n
theorem RLL.ok {K : PySem.W.Frag} {n : Nat} {P : Addr → Prop} : (RLL K n P).Ok := fun H H1 S' H' b d h ⟨ws, u, es, o, e1, e2, e3, e4, e5, e6⟩ => ⟨ws, u, es, o, e1, e2, e3, e4, fun b e => (e5 b e).imp id (h b), e6⟩
section
variable {X : Cx} {W : WX} {L : Lc} {os os1 os2 : Os} {pos p : Pos} {e : Expr} {es : List Expr} {st : Stmt} {rest : List Stmt} {f : Rho → Out (D × Rho)} {g h : Rho → Out Fl}
end
section
variable {P : Program} {w : World} {K : PySem.W.Frag} {mg : Str → Option Value} {base : Heap}
end
/-! the call, and the names that take its items -/
section
variable {X : Cx} {W : WX} {L : Lc} {os os1 os2 : Os} {pos p : Pos} {e : Expr} {es : List Expr} {f : Rho → Out (D × Rho)} {ch ch2 : List Nat}
variable {g : Rho → Out (List D × Rho)}
end
end SW

set_option maxRecDepth 100000
/-! SW51: str(a list or a tuple) in the law's own def: a promise for callers around whom nothing is being shown (no guard stands), its body rule, its end. -/
namespace SW
open PySem PySem.Spec PyProof.Rows L2

/-! ### data of which no part is a dict -/
mutual
theorem noDict_py : ∀ (d : D) (p : PyData), d.py = some p → p.hasDict = false
  | .non, p, e => by cases e; rfl
  | .bl b, p, e => by cases e; rfl
  | .int i, p, e => by cases e; rfl
  | .str z, p, e => by cases e; rfl
  | .tup ds, p, e => by
    unfold D.py at e
    cases e1 : D.pyL ds with
    | none => rw [e1] at e; cases e
    | some xs =>
      rw [e1] at e; cases e
      unfold PyData.hasDict
      exact noDict_pyL ds xs e1
  | .lst ds, p, e => by
    unfold D.py at e
    cases e1 : D.pyL ds with
    | none => rw [e1] at e; cases e
    | some xs =>
      rw [e1] at e; cases e
      unfold PyData.hasDict
      exact noDict_pyL ds xs e1
  | .scr ns, p, e => by
    cases e
    unfold PyData.hasDict
    induction ns with
    | nil => rfl
    | cons n ns ih =>
      show (PyData.hasDict (.int n) || PyData.hasDictAll (ns.map PyData.int)) = false
      rw [ih]
      rfl
  | .dct _, _, e => by cases e
  | .ins _ _, _, e => by cases e
  | .exc _ _, _, e => by cases e
  | .ty _, _, e => by cases e
theorem noDict_pyL : ∀ (ds : List D) (ps : List PyData), D.pyL ds = some ps → PyData.hasDictAll ps = false
  | [], ps, e => by cases e; rfl
  | d :: ds, ps, e => by
    unfold D.pyL at e
    cases e1 : d.py with
    | none => rw [e1] at e; cases e
    | some p1 =>
      cases e2 : D.pyL ds with
      | none => rw [e1, e2] at e; cases e
      | some p2 =>
        rw [e1, e2] at e
        cases e
        unfold PyData.hasDictAll
        rw [noDict_py d p1 e1, noDict_pyL ds p2 e2]
        rfl
end

/-! ### str(x) -/
def fitsP (p : PyData) : Bool := p.showable && (decide (p.depth ≤ 40) && decide (p.shown.length ≤ sizeLine))
def strD : List D → Option D
  | [.lst ds] => match D.py (.lst ds) with
    | some p => if fitsP p = true then some (.str p.shown) else none
    | none => none
  | [.tup ds] => match D.py (.tup ds) with
    | some p => if fitsP p = true then some (.str p.shown) else none
    | none => none
  | _ => none
section
variable {X : Cx}
theorem call_strR (hg : X.A.guards = some []) (hu : X.A.units + 64 < cLine) : CallR X (.type "str") (fun vs H Q => ∃ v S d p, vs = [v] ∧ (∃ a, v = .ref a) ∧ Same S H ∧ At X.K S v d ∧ d.py = some p ∧ fitsP p = true ∧ Q (.str p.shown) H) := by
  intro pins s σ H xs us Q I r q
  obtain ⟨v, S, d, p, rfl, ⟨a, rfl⟩, sub, hat, hp, hf, q⟩ := q
  obtain ⟨u, rfl, ru⟩ := vals1 r
  obtain ⟨as, rd⟩ := Dp.reads I p _ _ ((hat.mono sub).dp hp) ru
  obtain rfl : u = Value.ref a := ru
  unfold fitsP at hf
  rw [Bool.and_eq_true, Bool.and_eq_true] at hf
  have hd : p.depth ≤ 40 := of_decide_eq_true hf.2.1
  have hz : p.shown.length ≤ sizeLine := of_decide_eq_true hf.2.2
  exact str_of_reads rd hf.1 (PyData.noDict_hsm (noDict_py d p hp)) hg (by omega) (fun _ _ e => e) (fun h' t tk k => ⟨.str _, H, I.kept k, ⟨_, rfl⟩, q⟩) hz
theorem c_str (hg : X.A.guards = some []) (hu : X.A.units + 64 < cLine) : CallD X (.type "str") strD := by
  refine ⟨_, call_strR hg hu, fun S H vs ds c Q sub ha e k => ?_⟩
  match ds, vs, ha, e with
  | [.lst xs], [v], .cons h .nil, e =>
    have e : (match D.py (.lst xs) with
      | some p => if fitsP p = true then some (D.str p.shown) else none
      | none => none) = some c := e
    cases e1 : D.py (.lst xs) with
    | none => rw [e1] at e; cases e
    | some p =>
      rw [e1] at e
      by_cases hf : fitsP p = true
      · have e : (if fitsP p = true then some (D.str p.shown) else none) = some c := e
        rw [if_pos hf] at e
        cases e
        exact ⟨v, S, _, p, rfl, by cases h; exact ⟨_, rfl⟩, sub, h, e1, hf, k _ S H (Ext.refl sub) (.str _)⟩
      · have e : (if fitsP p = true then some (D.str p.shown) else none) = some c := e
        rw [if_neg hf] at e
        cases e
  | [.tup xs], [v], .cons h .nil, e =>
    have e : (match D.py (.tup xs) with
      | some p => if fitsP p = true then some (D.str p.shown) else none
      | none => none) = some c := e
    cases e1 : D.py (.tup xs) with
    | none => rw [e1] at e; cases e
    | some p =>
      rw [e1] at e
      by_cases hf : fitsP p = true
      · have e : (if fitsP p = true then some (D.str p.shown) else none) = some c := e
        rw [if_pos hf] at e
        cases e
        exact ⟨v, S, _, p, rfl, by cases h; exact ⟨_, rfl⟩, sub, h, e1, hf, k _ S H (Ext.refl sub) (.str _)⟩
      · have e : (if fitsP p = true then some (D.str p.shown) else none) = some c := e
        rw [if_neg hf] at e
        cases e
end

/-! ### texts compared -/
def neS : D → D → Option D
  | .str x, .str y => some (.bl (!decide (x = y)))
  | _, _ => none
theorem o_neS {X : Cx} : Op2 X (compareOp .NotEq) neS := ⟨_, op_ne, fun S H v w a b c Q sub ha hb e k => by
  match a, b, e with
  | .str x, .str y, e =>
    cases e
    cases ha
    cases hb
    have q : (decide (V.str x = V.str y)) = decide (x = y) := by
      rw [Bool.eq_iff_iff]
      simp
    refine ⟨rfl, ?_⟩
    rw [q]
    exact k _ S H (Ext.refl sub) (.bl _)⟩

/-! ### a promise for callers around whom no guard stands -/
def FnG (P : Program) (w : World) (K : PySem.W.Frag) (mg : Str → Option Value) (base : Heap) (k : Nat) (f : Addr) (fd : FuncData) (ps : List Str) (sp : Sp) : Prop :=
  ∀ (A : Around) (outer : List Env) (s : Shared) (H : Hp) (args : Args) (us : List Value) (vs : List V) (Q : VK) (E : XK), A.guards = some [] → Room k A → Env0 P w K mg base A outer s H → BindsTo s fd args (ps.zip us) → Vals vs us → sp vs H Q E →
    codeAny (model P w) A (.call (.ref f) args) (CR (L2.CX P w) outer P w H s Q E) s
section
variable {P : Program} {w : World} {K : PySem.W.Frag} {mg : Str → Option Value} {base : Heap}
theorem fn_byG {x qual : Str} {st : Stmt} {f : Addr} {fd : FuncData} {N ps : List Str} {k n : Nat} {g : Rho → Out Fl} {os osN : Os} (F : Fun K x qual st f fd) (Sc : FnScope N ps (defScope st)) (hn : n = ps.length)
    (ho : ∀ i, os.getD i false = (osP none).getD i false) (hNl : Le (osP none) osN)
    (body : ∀ (cdv : Value) (A : Around) (outer : List Env) (s : Shared) (H : Hp) (E : XK), A.guards = some [] → Room k (A.deeper (envOfC qual (defScope st) s.heap.objs.size f cdv)) →
      ∀ (X : Cx), X = cxOf (L2.CX P w) P w K mg base N qual (defScope st) f cdv A outer s H E → Takes X (fun cls d _ H' => E cls d H') → PassesOwn (model X.prog X.w) X.A X.env X.xe →
      VSs X (fun cls d _ H' => E cls d H') ⟨osP none, [], [], false, osP none, fun _ h => h⟩ os (defBody st) g osN) :
    FnG P w K mg base (k + 1) f fd ps (spec K mg n none false (runF N.length none g)) := by
  intro A outer s H args us vs Q E hgd room en bnd rel0 want
  obtain ⟨oc, od, kV, doc, pm, an, cdv, ct, osl, rfl, look, code⟩ := F.ex
  have nlen : vs.length = ps.length := by rw [want.1, hn]
  have old : ∀ {b : Addr} {o : Obj}, base.get? b = some o → s.heap.get? b = some o := fun e => (en.bs _ _ e).1
  have kin := en.mod.kin.keeps fun _ _ e => old e
  -- where each parameter lies
  have place : ∀ q ∈ ps.zip us, (defScope st).names.lookup q.1 = some .local ∨ ((defScope st).names.lookup q.1 = some .cell ∧ ((cellsFrom (s.heap.objs.size + 1) (defScope st).names []).lookup q.1).isSome = true) := by
    intro q hq
    obtain ⟨y, z⟩ := q
    cases Sc.par y (List.of_mem_zip hq).1 with
    | inl c => exact Or.inl c
    | inr c => exact Or.inr ⟨c, Option.isSome_iff_exists.mpr (cell_has c)⟩
  refine codeAny_call_function room.depth (kin f _ look) rfl Sc.co Sc.gen rfl (PySem.W.codeRec_of kin code) (bnd _ _ _ _ (wpAny_newFunctionEnv_cells Sc.kind place ?_))
  rintro env rfl s1 laid
  have lim1 := (en.mod.nolimit.keeps fun _ _ e => old e).keeps laid.toInCall.keep
  refine ⟨lim1, codeAny_func ?_⟩
  obtain ⟨_, S, ds, relS, post⟩ := want
  obtain ⟨t, walk, reach⟩ := body cdv A outer s H E hgd (room.deeper _) _ rfl (takes_of rfl rfl rfl rfl) (passes_of rfl)
  have start1 := inv_start (f := f) (cd := cdv) (qual := qual) (CX := L2.CX P w) (E := E) Sc room.hd en nlen rel0 laid
  have goal : t { nx := fun _ H' => Q .non H', rt := Q } (start N vs) H := by
    refine reach S _ H _ _ (rel_start (N := N) relS ho) ?_
    have hvl : vs.length = ds.length := by simpa using relS.len
    unfold runF at post
    cases e : g (ds.map some ++ List.replicate (N.length - ds.length) none) with
    | exc c fs =>
      rw [e] at post
      exact fun σ' S' H' cls dd x q => post S' H' cls dd (x.weak fun a q => own_start ho q) q
    | stuck => rw [e] at post; exact post.elim
    | ok z =>
      rw [e] at post
      cases z with
      | bk ρ => exact post.elim
      | ct ρ => exact post.elim
      | nx ρ => exact fun σ' S' H' s' f' r' => post .non S' H' (s'.ext.weak fun a q => own_start ho q) .non (fun k u ek => nomatch ek)
      | rt d ρ => exact fun v S' H' x hv hk => post v S' H' (x.weak fun a q => own_start ho q) hv (fun k u ek => nomatch ek)
  refine wpAny_mono (walk.run [] s1 (start N vs) H _ start1 goal) (fun fl s2 out => ?_) fun _ _ out => out
  match fl, out with
  | .ret u, ⟨v, σ', H', J, rv, q⟩ => exact ⟨v, H', J.os, J.bare, J.base, J.hok, rv, q⟩
  | .next, ⟨σ', H', J, q⟩ => exact ⟨.non, H', J.os, J.bare, J.base, J.hok, rfl, q⟩
  | .brk, ⟨_, _, _, q⟩ => exact q.elim
  | .cont, ⟨_, _, _, q⟩ => exact q.elim
end

/-! ### the end of a law whose def leans on it -/
theorem FnG.imp {P : Program} {w : World} {K : PySem.W.Frag} {mg : Str → Option Value} {base : Heap} {k : Nat} {f : Addr} {fd : FuncData} {ps : List Str} {sp sp' : Sp} (F : FnG P w K mg base k f fd ps sp) (h : ∀ vs H Q E, sp' vs H Q E → sp vs H Q E) : FnG P w K mg base k f fd ps sp' :=
  fun A outer s H args us vs Q E g r e b v q => F A outer s H args us vs Q E g r e b v (h _ _ _ _ q)
/-- what is tracked at the entry: the script at a, or nothing where the module itself holds it -/
def scrH (K : PySem.W.Frag) (a : Addr) (vs : List Value) (ns : List Int) : Hp := fun b =>
  if b = a ∧ K.lookup a = none then some (.frz { cls := .type "list", data := .seq vs.toArray } (.lst (ns.map V.int))) else none
theorem scrH_some {K : PySem.W.Frag} {a b : Addr} {vs : List Value} {ns : List Int} {o : HO} (h : scrH K a vs ns b = some o) : b = a ∧ K.lookup a = none ∧ o = .frz { cls := .type "list", data := .seq vs.toArray } (.lst (ns.map V.int)) := by
  unfold scrH at h
  split at h
  · rename_i c
    exact ⟨c.1, c.2, (Option.some.inj h).symm⟩
  · cases h
theorem scr_end {P : Program} {w : World} {K : PySem.W.Frag} {mg mb : Str → Option Value} {k : Nat} {fa a : Addr} {fd : FuncData} {x : Str} {m : List D → Out (D × D)} {s : Shared} {vs : List Value} {ns : List Int}
    (kin : K.In s.heap) (gl : s.heap.Ns mainGlobals mg) (bl : s.heap.Ns builtinsNs mb) (bb : ∀ y : Str, y ≠ "__name__" → mb y = bootBuiltins y) (lim : s.heap.NoLimit) (gens : s.gens = #[])
    (obj : s.heap.get? a = some { cls := .type "list", data := .seq vs.toArray }) (nums : IntsAre vs ns) (short : ns.length ≤ 63) (room : Room k callerA)
    (F : ∀ base : Heap, K.In base → base.Ns mainGlobals mg → FnG P w K mg base k fa fd [x] (specL K m)) (bnd : ∀ (s : Shared) (u : Value), BindsTo s fd ⟨[u], []⟩ [(x, u)])
    (law : ∀ ns : List Int, ns.length ≤ 63 → ∃ o, m [.scr ns] = .ok (.bl true, o)) :
    codeAny (model P w) callerA (.call (.ref fa) ⟨[.ref a], []⟩) (fun r s' => r = .ok (.ret (.bool true)) ∧ OldK s.heap s'.heap ∧ s'.os = s.os ∧ AllBare s'.gens) s := by
  have many : ns.length ≤ sizeLine := Nat.le_trans short (by decide)
  have vals := vals_ints nums
  generalize eH : scrH K a vs ns = H
  have at_a : ∀ {b : Addr} {o : HO}, H b = some o → b = a ∧ K.lookup a = none ∧ o = .frz { cls := .type "list", data := .seq vs.toArray } (.lst (ns.map V.int)) := fun h => scrH_some (by rw [eH]; exact h)
  have off : ∀ {b : Addr}, b ≠ a → H b = none := fun {b} n => by
    cases q : H b with
    | none => rfl
    | some o => exact (n (at_a q).1).elim
  -- the script's reading
  have script : SqL K H a (ns.map V.int) := by
    cases q : K.lookup a with
    | none => exact .inl (.inr ⟨_, by rw [← eH]; exact if_pos ⟨rfl, q⟩⟩)
    | some o =>
      have z := kin a o q
      rw [obj] at z
      cases z
      exact .inr ⟨_, vs.toArray, _, q, rfl, rfl, rfl, by rw [List.size_toArray, nums.length]; exact many, by simpa using vals⟩
  have hold : HOk P w H s.heap := fun b o q => by
    obtain ⟨rfl, _, rfl⟩ := at_a q
    exact ⟨obj, by rw [List.length_map]; exact many, vs, _, vals, obj⟩
  have free : ∀ {b : Addr} {o : Obj}, K.lookup b = some o → H b = none := fun {b o} e => by
    cases q : H b with
    | none => rfl
    | some u =>
      obtain ⟨rfl, n, _⟩ := at_a q
      rw [n] at e
      cases e
  have space : ∀ {b : Addr} {f : Str → Option Value}, s.heap.Ns b f → (hidT s.heap H).Ns b f := by
    rintro b f ⟨o, es, ep, e, d, r⟩
    refine ⟨o, es, ep, hidT_get e (off fun z => ?_), d, r⟩
    rw [z, obj] at e
    cases e
    cases d
  have kin' : K.In (hidT s.heap H) := fun b o e => hidT_get (kin b o e) (free e)
  obtain ⟨mc, c1, c2⟩ := lim
  have modu : L2.Mod K mg (hidT s.heap H) := ⟨kin', space gl, ⟨mb, space bl, bb⟩, mc, space c1, c2⟩
  have enter : Env0 P w K mg (hidT s.heap H) callerA [] s H :=
    { frames := rfl, mod := modu, bs := fun b o e => of_hidT e, bsz := Nat.le_of_eq (hidT_size _ _), funs := trivial, frf := fun b hb => absurd hb (List.not_mem_nil), hok := hold, bare := .of_eq gens }
  have wish : specL K m [.ref a] H (fun v _ => v = .bl true) fun _ _ _ => False := law_specL law short script
  refine codeAny_mono (F _ kin' (space gl) callerA [] s H ⟨[.ref a], []⟩ [.ref a] [.ref a] _ _ rfl room enter (bnd s (.ref a)) (.cons rfl .nil) wish) fun r s' out => ?_
  match r, out with
  | .error e, out => exact (SW.cx_false out).elim
  | .ok .next, out => exact out.elim
  | .ok .brk, out => exact out.elim
  | .ok .cont, out => exact out.elim
  | .ok (.ret u), ⟨v, H', os, bare, un, hold', ru, q⟩ =>
    have q : v = .bl true := q
    subst q
    obtain rfl : u = Value.bool true := ru
    refine ⟨rfl, OldK.of_keep fun b o e => ?_, os, bare⟩
    cases h : H b with
    | none => exact un.keep b o e h (fun z => (List.not_mem_nil z).elim) (by simp)
    | some u =>
      obtain ⟨rfl, _, rfl⟩ := at_a h
      have h2 := (hold' b _ (un.frzs b _ _ h)).1
      rw [obj] at e
      cases e
      exact h2
theorem walk_G {l : PySem.W.OpenLaw} {k : Nat} {q : Program} {loose : List Str} {XP : (Str → Option Value) → Heap → Prop} {YP : World → Heap → Prop} {d : DefRec} {x : Str} {m : List D → Out (D × D)}
    (most : l.most = some 63) (nodef : d.params.defaults = []) (room : Room k callerA) (law : ∀ ns : List Int, ns.length ≤ 63 → ∃ o, m [.scr ns] = .ok (.bl true, o))
    (F : ∀ (w : World) (mg : Str → Option Value) (fa : Addr) (h : Heap), YP w h → h.Ns mainGlobals mg → mg d.name = some (.ref fa) →
      ∃ K : PySem.W.Frag, K.In h ∧ ∃ fd : FuncData, (∀ (s : Shared) (u : Value), BindsTo s fd ⟨[u], []⟩ [(x, u)]) ∧ ∀ base : Heap, K.In base → base.Ns mainGlobals mg → FnG l.prog w K mg base k fa fd [x] (specL K m)) :
    PySem.W.WalkO q loose XP YP l.row.toRowW d [] (fun f vs => PySem.call f vs) := by
  refine Att.attach_callB most nodef ?_
  intro w s₀ s₁ mg mb fa o pm cd doc a vs ns gr y _ _ _ hmg obj nums short _ gens
  obtain ⟨K, kin, fd, bnd, prom⟩ := F w mg fa _ y gr.T.g hmg
  exact scr_end kin gr.T.g gr.T.b gr.T.builtins gr.T.nolimit gens obj nums short room prom bnd law
end SW

set_option maxRecDepth 100000
namespace SW
open PySem PySem.Spec PyProof.Rows L2
/-! a truth that is not True -/
section
variable {X : Cx}
end
end SW

set_option maxRecDepth 100000
/-! SW63: names that hold trees: lists within lists, all their cells private (Tr); a frame's slots with trees (RelT); looks at them. -/
namespace SW
open PySem PySem.Spec PyProof.Rows L2

mutual
/-- a value whose lists are the cells A; what else is in it is without lists and stands -/
inductive Tr (K : PySem.W.Frag) (S H : Hp) : List Addr → V → D → Prop
  | leaf {v : V} {d : D} : At K S v d → tokD d = true → Tr K S H [] v d
  | tup {a : Addr} {vs : List V} {ds : List D} {A : List Addr} : SqT K S a vs → ds.length ≤ sizeLine → TrL K S H A vs ds → Tr K S H A (.ref a) (.tup ds)
  | lst {a : Addr} {vs : List V} {ds : List D} {A : List Addr} : H a = some (.lst vs) → a ∉ A → ds.length ≤ sizeLine → TrL K S H A vs ds → Tr K S H (a :: A) (.ref a) (.lst ds)
inductive TrL (K : PySem.W.Frag) (S H : Hp) : List Addr → List V → List D → Prop
  | nil : TrL K S H [] [] []
  | cons {A B : List Addr} {v : V} {vs : List V} {d : D} {ds : List D} : Tr K S H A v d → TrL K S H B vs ds → TrL K S H (A ++ B) (v :: vs) (d :: ds)
end
section
variable {K : PySem.W.Frag} {S S' S1 H H' : Hp}
mutual
theorem Tr.mono (e : Same S S') : ∀ {A : List Addr} {v : V} {d : D}, (∀ a ∈ A, H' a = H a) → Tr K S H A v d → Tr K S' H' A v d
  | _, _, _, _, .leaf h t => .leaf (h.mono e) t
  | _, _, _, k, .tup h z r => .tup (sqT_mono e h) z (TrL.mono e k r)
  | _, _, _, k, .lst h n z r => .lst ((k _ (List.mem_cons_self ..)).trans h) n z (TrL.mono e (fun a ha => k a (List.mem_cons_of_mem _ ha)) r)
theorem TrL.mono (e : Same S S') : ∀ {A : List Addr} {vs : List V} {ds : List D}, (∀ a ∈ A, H' a = H a) → TrL K S H A vs ds → TrL K S' H' A vs ds
  | _, _, _, _, .nil => .nil
  | _, _, _, k, .cons h r => .cons (Tr.mono e (fun a ha => k a (List.mem_append_left _ ha)) h) (TrL.mono e (fun a ha => k a (List.mem_append_right _ ha)) r)
end
mutual
theorem Tr.drop {O : Addr → Prop} {S2 : Hp} (hn : NoTup S O) (h2 : ∀ a, ¬ O a → S2 a = S a) : ∀ {A : List Addr} {v : V} {d : D}, Tr K S H A v d → Tr K S2 H A v d
  | _, _, _, .leaf h t => .leaf (tok_drop hn h2 h t) t
  | _, _, _, .tup h z r => .tup (sqT_drop hn h2 h) z (TrL.drop hn h2 r)
  | _, _, _, .lst h n z r => .lst h n z (TrL.drop hn h2 r)
theorem TrL.drop {O : Addr → Prop} {S2 : Hp} (hn : NoTup S O) (h2 : ∀ a, ¬ O a → S2 a = S a) : ∀ {A : List Addr} {vs : List V} {ds : List D}, TrL K S H A vs ds → TrL K S2 H A vs ds
  | _, _, _, .nil => .nil
  | _, _, _, .cons h r => .cons (Tr.drop hn h2 h) (TrL.drop hn h2 r)
end
mutual
/-- where its cells stand, it stands -/
theorem Tr.at (e : Same S S1) : ∀ {A : List Addr} {v : V} {d : D}, (∀ a ∈ A, S1 a = H a) → Tr K S H A v d → At K S1 v d
  | _, _, _, _, .leaf h t => h.mono e
  | _, _, _, k, .tup h z r => .tup (sqT_mono e h) z (TrL.at e k r)
  | _, _, _, k, .lst h n z r => .lst ((k _ (List.mem_cons_self ..)).trans h) z (TrL.at e (fun a ha => k a (List.mem_cons_of_mem _ ha)) r)
theorem TrL.at (e : Same S S1) : ∀ {A : List Addr} {vs : List V} {ds : List D}, (∀ a ∈ A, S1 a = H a) → TrL K S H A vs ds → AtL K S1 vs ds
  | _, _, _, _, .nil => .nil
  | _, _, _, k, .cons h r => .cons (Tr.at e (fun a ha => k a (List.mem_append_left _ ha)) h) (TrL.at e (fun a ha => k a (List.mem_append_right _ ha)) r)
end
mutual
theorem Tr.cell : ∀ {A : List Addr} {v : V} {d : D}, Tr K S H A v d → ∀ a ∈ A, ∃ vs, H a = some (.lst vs)
  | _, _, _, .leaf _ _, a, h => nomatch h
  | _, _, _, .tup _ _ r, a, h => TrL.cell r a h
  | _, _, _, .lst e _ _ r, a, h => by
    rcases List.mem_cons.mp h with rfl | h
    · exact ⟨_, e⟩
    · exact TrL.cell r a h
theorem TrL.cell : ∀ {A : List Addr} {vs : List V} {ds : List D}, TrL K S H A vs ds → ∀ a ∈ A, ∃ vs, H a = some (.lst vs)
  | _, _, _, .nil, a, h => nomatch h
  | _, _, _, .cons q r, a, h => by
    rcases List.mem_append.mp h with h | h
    · exact Tr.cell q a h
    · exact TrL.cell r a h
end
theorem TrL.length : ∀ {A : List Addr} {vs : List V} {ds : List D}, TrL K S H A vs ds → vs.length = ds.length
  | _, _, _, .nil => rfl
  | _, _, _, .cons _ r => by rw [List.length_cons, List.length_cons, TrL.length r]
theorem TrL.append : ∀ {A B : List Addr} {vs ws : List V} {ds es : List D}, TrL K S H A vs ds → TrL K S H B ws es → TrL K S H (A ++ B) (vs ++ ws) (ds ++ es)
  | _, _, _, _, _, _, .nil, r => r
  | _, _, _, _, _, _, .cons h t, r => by rw [List.append_assoc]; exact .cons h (TrL.append t r)
theorem TrL.leaves : ∀ {vs : List V} {ds : List D}, AtL K S vs ds → tokL ds = true → TrL K S H [] vs ds
  | _, _, .nil, _ => .nil
  | _, _, .cons h r, t => by
    unfold tokL at t
    obtain ⟨t1, t2⟩ := Bool.and_eq_true_iff.mp t
    exact .cons (A := []) (.leaf h t1) (TrL.leaves r t2)
end

/-- ms: the slots that hold trees; with true where no cell stands twice in one -/
abbrev Ms := List (Nat × Bool)
abbrev Ms.ix (ms : Ms) : List Nat := ms.map (·.1)
/-- the trees' cells -/
structure Trees (K : PySem.W.Frag) (S H : Hp) (P : Addr → Prop) (os : Os) (ms : Ms) (σ : Sg) (ρ : Rho) (A : Nat → List Addr) : Prop where
  tree : ∀ p ∈ ms, ∃ v d, σ[p.1]? = some (some v) ∧ ρ[p.1]? = some (some d) ∧ Tr K S H (A p.1) v d
  priv : ∀ p ∈ ms, ∀ a ∈ A p.1, S a = none ∧ P a ∧ ¬ Own os σ a
  apart : ∀ p ∈ ms, ∀ q ∈ ms, p.1 ≠ q.1 → ∀ a ∈ A p.1, a ∉ A q.1
  once : ∀ p ∈ ms, p.2 = true → (A p.1).Nodup
structure RelT (K : PySem.W.Frag) (S H : Hp) (P : Addr → Prop) (os : Os) (ms : Ms) (σ : Sg) (ρ : Rho) : Prop where
  rel : Rel K S H os σ (wipeR ρ ms.ix)
  om : ∀ i ∈ ms.ix, os.getD i false = false
  own : ∀ a, Own os σ a → P a
  trees : ∃ A, Trees K S H P os ms σ ρ A
def ownTok : D → Bool
  | .lst ds => tokL ds
  | .dct kvs => tokL (dvs kvs)
  | _ => false
def tokO : Option D → Option D
  | some d => if tokD d = true then some d else none
  | none => none
/-- the slots us are taken from the second -/
def putU : List Nat → Rho → Rho → Rho
  | [], _, ρ => ρ
  | i :: r, ρ1, ρ => (putU r ρ1 ρ).set i (ρ1.getD i none)
/-- the slots vs are taken from the second, where they are without lists; else forgotten -/
def putV : List Nat → Rho → Rho → Rho
  | [], _, ρ => ρ
  | i :: r, ρ1, ρ => (putV r ρ1 ρ).set i (tokO (ρ1.getD i none))
theorem putU_len : ∀ {us : List Nat} {ρ1 ρ : Rho}, (putU us ρ1 ρ).length = ρ.length
  | [], _, _ => rfl
  | i :: r, _, _ => by unfold putU; rw [List.length_set, putU_len]
theorem putV_len : ∀ {us : List Nat} {ρ1 ρ : Rho}, (putV us ρ1 ρ).length = ρ.length
  | [], _, _ => rfl
  | i :: r, _, _ => by unfold putV; rw [List.length_set, putV_len]
theorem putU_out {i : Nat} : ∀ {us : List Nat} {ρ1 ρ : Rho}, i ∉ us → (putU us ρ1 ρ)[i]? = ρ[i]?
  | [], _, _, _ => rfl
  | j :: r, _, _, h => by
    unfold putU
    rw [List.getElem?_set_ne (fun z => h (by rw [z]; exact List.mem_cons_self ..))]
    exact putU_out fun z => h (List.mem_cons_of_mem _ z)
theorem putV_out {i : Nat} : ∀ {us : List Nat} {ρ1 ρ : Rho}, i ∉ us → (putV us ρ1 ρ)[i]? = ρ[i]?
  | [], _, _, _ => rfl
  | j :: r, _, _, h => by
    unfold putV
    rw [List.getElem?_set_ne (fun z => h (by rw [z]; exact List.mem_cons_self ..))]
    exact putV_out fun z => h (List.mem_cons_of_mem _ z)
theorem putU_in {i : Nat} : ∀ {us : List Nat} {ρ1 ρ : Rho}, i ∈ us → i < ρ.length → (putU us ρ1 ρ)[i]? = some (ρ1.getD i none)
  | j :: r, ρ1, ρ, h, hl => by
    unfold putU
    by_cases e : j = i
    · subst e; rw [List.getElem?_set_self (by rw [putU_len]; exact hl)]
    · rw [List.getElem?_set_ne e]
      exact putU_in ((List.mem_cons.mp h).resolve_left (Ne.symm e)) hl
theorem putV_in {i : Nat} : ∀ {us : List Nat} {ρ1 ρ : Rho}, i ∈ us → i < ρ.length → (putV us ρ1 ρ)[i]? = some (tokO (ρ1.getD i none))
  | j :: r, ρ1, ρ, h, hl => by
    unfold putV
    by_cases e : j = i
    · subst e; rw [List.getElem?_set_self (by rw [putV_len]; exact hl)]
    · rw [List.getElem?_set_ne e]
      exact putV_in ((List.mem_cons.mp h).resolve_left (Ne.symm e)) hl
theorem getD_get {ρ : Rho} {i : Nat} (h : i < ρ.length) : ρ[i]? = some (ρ.getD i none) := by
  rw [List.getD, List.getElem?_eq_getElem h]; rfl

section
variable {K : PySem.W.Frag} {S H : Hp} {P : Addr → Prop} {os : Os} {ms : Ms} {σ : Sg} {ρ : Rho}
/-- the trees' cells are as they were -/
def Kept (K : PySem.W.Frag) (S H S' H' : Hp) (P : Addr → Prop) (os : Os) (ms : Ms) (σ σ' : Sg) (ρ ρ' : Rho) : Prop :=
  ∀ A, Trees K S H P os ms σ ρ A → (∀ p ∈ ms, ∀ a ∈ A p.1, H' a = H a) ∧ Trees K S' H' P os ms σ' ρ' A ∧ ∀ p ∈ ms, ρ'[p.1]? = ρ[p.1]?
/-- what a look makes stand for a while -/
def LookC (σ : Sg) (os os1 : Os) (hs : List Nat) (ms : Ms) (A : Nat → List Addr) (a : Addr) : Prop :=
  (∃ i, os.getD i false = true ∧ os1.getD i false = false ∧ i ∉ hs ∧ σ[i]? = some (some (.ref a))) ∨ ∃ p ∈ ms, p.1 ∉ hs ∧ a ∈ A p.1
structure Seen (K : PySem.W.Frag) (S H : Hp) (P : Addr → Prop) (os os1 : Os) (hs : List Nat) (ms : Ms) (σ : Sg) (ρ : Rho) (C : Addr → Prop) (S1 : Hp) : Prop where
  s : Same S S1
  rel : Rel K S1 H os1 σ (wipeR ρ hs)
  ext : ∀ {S' H'}, Ext (Own os1 σ) S1 H S' H' → Ext P S H S' H'
  back : ∀ {us vs : List Nat} {σ' : Sg} {S1' H1' : Hp} {ρ1' : Rho}, (∀ i, os1.getD i false = true ↔ i ∈ us) → (∀ i ∈ vs, os.getD i false = false ∧ i ∉ ms.ix) → ChOn vs σ σ' → Ext (Own os1 σ) S1 H S1' H1' → Rel K S1' H1' os1 σ' ρ1' →
    (∀ i ∈ us, ∀ d, ρ1'[i]? = some (some d) → ownTok d = true) →
    ∃ S', (∀ a, ¬ C a → S' a = S1' a) ∧ (∀ a, C a → S' a = none) ∧ NoTup S1' C ∧ Ext P S H S' H1' ∧ RelT K S' H1' P os ms σ' (putV vs ρ1' (putU us ρ1' ρ)) ∧ Kept K S H S' H1' P os ms σ σ' ρ (putV vs ρ1' (putU us ρ1' ρ))
theorem own_drop {S1' S' H' : Hp} {C : Addr → Prop} {v : V} {d : D} (hn : NoTup S1' C) (h2 : ∀ a, ¬ C a → S' a = S1' a) (h3 : ∀ a, C a → S' a = none) (q : OwnAt K S1' H' v d) (t : ownTok d = true) : OwnAt K S' H' v d := by
  obtain ⟨a, e, n, o, eh, bd⟩ := q
  have n' : S' a = none := by
    by_cases z : C a
    · exact h3 a z
    · rw [h2 a z]; exact n
  refine ⟨a, e, n', o, eh, ?_⟩
  cases bd with
  | lst z r => exact .lst z (tokL_drop hn h2 r t)
  | dct k z r => exact .dct k z (tokL_drop hn h2 r t)
  | ins => cases t
theorem RelT.look (r : RelT K S H P os ms σ ρ) (hs : List Nat) (os1 : Os) (h1 : Le os1 os) (h2 : ∀ i, os1.getD i false = true → i ∉ hs) : ∃ C S1, Seen K S H P os os1 hs ms σ ρ C S1 := by
  classical
  obtain ⟨A0, tr⟩ := r.trees
  have hC : ∀ a, LookC σ os os1 hs ms A0 a → P a ∧ S a = none ∧ ¬ Own os1 σ a ∧ ∃ o, H a = some o ∧ (∀ vs, o ≠ .tup vs) ∧ ∀ o' vs, o ≠ .frz o' (.tup vs) := by
    rintro a (⟨i, a1, a2, a3, a4⟩ | ⟨p, hp, hh, ha⟩)
    · have ho : Own os σ a := ⟨i, a1, a4⟩
      refine ⟨r.own a ho, (r.rel.owned ho).1, fun ⟨j, b1, b2⟩ => ?_, ?_⟩
      · have := r.rel.sep i j a a1 (getD_le h1 b1) a4 b2
        rw [this, b1] at a2; cases a2
      · obtain ⟨o, d, eh, bd⟩ := r.rel.ownBody ho
        refine ⟨o, eh, ?_⟩
        cases bd <;> exact ⟨(fun _ z => by cases z), fun _ _ z => by cases z⟩
    · obtain ⟨q1, q2, q3⟩ := tr.priv p hp a ha
      obtain ⟨v, d, _, _, q⟩ := tr.tree p hp
      obtain ⟨vs, e⟩ := q.cell a ha
      exact ⟨q2, q1, fun ⟨j, b1, b2⟩ => q3 ⟨j, getD_le h1 b1, b2⟩, _, e, (fun _ z => by cases z), fun _ _ z => by cases z⟩
  -- the standing heap of the look
  let S1 : Hp := fun a => if LookC σ os os1 hs ms A0 a then H a else S a
  have f1 : ∀ a, LookC σ os os1 hs ms A0 a → S1 a = H a := fun a z => if_pos z
  have f2 : ∀ a, ¬ LookC σ os os1 hs ms A0 a → S1 a = S a := fun a z => if_neg z
  have sm : Same S S1 := fun a o e => by
    rw [f2 a fun z => by rw [(hC a z).2.1] at e; cases e]; exact e
  have sh : Same S1 H := fun a o e => by
    by_cases z : LookC σ os os1 hs ms A0 a
    · rw [f1 a z] at e; exact e
    · rw [f2 a z] at e; exact r.rel.sub a o e
  have rlen : σ.length = ρ.length := by have := r.rel.len; rwa [wipeR_len] at this
  -- the slots, seen
  have slot : ∀ i x d, σ[i]? = some x → (wipeR ρ hs)[i]? = some d → SlotAt K S1 H (os1.getD i false) x d := fun i x d e1 e2 => by
    have hl : i < ρ.length := by
      have := (List.getElem?_eq_some_iff.mp e2).1
      rwa [wipeR_len] at this
    by_cases hh : i ∈ hs
    · rw [wipeR_in hh hl] at e2
      cases e2
      cases ho1 : os1.getD i false with
      | true => exact (h2 i ho1 hh).elim
      | false => cases x <;> trivial
    · rw [wipeR_out hh] at e2
      by_cases hm : i ∈ ms.ix
      · obtain ⟨p, hp, rfl⟩ := List.mem_map.mp hm
        obtain ⟨v, d', q1, q2, q3⟩ := tr.tree p hp
        rw [q1] at e1; rw [q2] at e2
        cases e1; cases e2
        have ho1 : os1.getD p.1 false = false := by
          cases z : os1.getD p.1 false with
          | false => rfl
          | true => have := getD_le h1 z; rw [r.om _ hm] at this; cases this
        rw [ho1]
        exact q3.at sm fun a ha => f1 a (.inr ⟨p, hp, hh, ha⟩)
      · have q := r.rel.slot i x d e1 (by rw [wipeR_out hm]; exact e2)
        cases ho1 : os1.getD i false with
        | true =>
          rw [getD_le h1 ho1] at q
          cases x <;> cases d <;> simp only [SlotAt] at q ⊢
          obtain ⟨a, ea, na, o, eo, bd⟩ := q
          subst ea
          have nc : ¬ LookC σ os os1 hs ms A0 a := fun z => (hC a z).2.2.1 ⟨i, ho1, e1⟩
          exact ⟨a, rfl, by rw [f2 a nc]; exact na, o, eo, bd.mono sm⟩
        | false =>
          cases ho : os.getD i false <;> rw [ho] at q <;> cases x <;> cases d <;> simp only [SlotAt] at q ⊢
          · exact q.mono sm
          · obtain ⟨a, ea, na, o, eo, bd⟩ := q
            subst ea
            exact (bd.mono sm).at ((f1 a (.inl ⟨i, ho, ho1, hh, e1⟩)).trans eo)
  have ext : ∀ {S' H'}, Ext (Own os1 σ) S1 H S' H' → Ext P S H S' H' := fun {S' H'} x =>
    ⟨sm.trans x.s, x.sh, fun a o e n no => x.fr a o e ((f2 a fun z => no (hC a z).1).trans n) fun ⟨j, b1, b2⟩ => no (r.own a ⟨j, getD_le h1 b1, b2⟩), x.there⟩
  refine ⟨LookC σ os os1 hs ms A0, S1, sm, ⟨sh, by rw [wipeR_len]; exact rlen, slot, fun i j a a1 a2 => r.rel.sep i j a (getD_le h1 a1) (getD_le h1 a2)⟩, ext, fun {us vs σ' S1' H1' ρ1'} hus hvs hch x rel1 htk => ?_⟩
  let S' : Hp := fun a => if LookC σ os os1 hs ms A0 a then none else S1' a
  have g1 : ∀ a, LookC σ os os1 hs ms A0 a → S' a = none := fun a z => if_pos z
  have g2 : ∀ a, ¬ LookC σ os os1 hs ms A0 a → S' a = S1' a := fun a z => if_neg z
  have stands : ∀ a o, LookC σ os os1 hs ms A0 a → H a = some o → S1' a = some o := fun a o z e => x.s a o ((f1 a z).trans e)
  have hn : NoTup S1' (LookC σ os os1 hs ms A0) := fun a vs z => by
    obtain ⟨_, _, _, o, e, k1, k2⟩ := hC a z
    rw [stands a o z e]
    exact ⟨fun y => k1 vs (Option.some.inj y), fun o' y => k2 o' vs (Option.some.inj y)⟩
  have sS : Same S S' := fun a o e => by
    rw [g2 a fun z => by rw [(hC a z).2.1] at e; cases e]
    exact x.s a o (sm a o e)
  have sH : Same S' H1' := fun a o e => by
    by_cases z : LookC σ os os1 hs ms A0 a
    · rw [g1 a z] at e; cases e
    · rw [g2 a z] at e; exact x.sh a o e
  have hext : Ext P S H S' H1' := ⟨sS, sH, fun a o e n no => by
    have nc : ¬ LookC σ os os1 hs ms A0 a := fun z => no (hC a z).1
    obtain ⟨q1, q2⟩ := x.fr a o e ((f2 a nc).trans n) fun ⟨j, b1, b2⟩ => no (r.own a ⟨j, getD_le h1 b1, b2⟩)
    exact ⟨q1, (g2 a nc).trans q2⟩, x.there⟩
  -- a cell that isn't the look's and that nobody turns
  have rest : ∀ a o, H a = some o → S a = none → ¬ LookC σ os os1 hs ms A0 a → ¬ Own os1 σ a → H1' a = some o ∧ S' a = none := fun a o e n nc no => by
    obtain ⟨q1, q2⟩ := x.fr a o e ((f2 a nc).trans n) no
    exact ⟨q1, (g2 a nc).trans q2⟩
  have hvi : ∀ {i}, os.getD i false = true → i ∉ vs := fun {i} ho z => by rw [(hvs i z).1] at ho; cases ho
  have ownσ : ∀ a, Own os σ' a ↔ Own os σ a := fun a => ⟨fun ⟨j, b1, b2⟩ => ⟨j, b1, by rw [← hch.2 j (hvi b1)]; exact b2⟩, fun ⟨j, b1, b2⟩ => ⟨j, b1, by rw [hch.2 j (hvi b1)]; exact b2⟩⟩
  have keep : Kept K S H S' H1' P os ms σ σ' ρ (putV vs ρ1' (putU us ρ1' ρ)) := fun A tr => by
    have cellK : ∀ p ∈ ms, ∀ a ∈ A p.1, H1' a = H a ∧ S' a = none := fun p hp a ha => by
      obtain ⟨v, d, _, _, q⟩ := tr.tree p hp
      obtain ⟨ws, e⟩ := q.cell a ha
      obtain ⟨q1, q2, q3⟩ := tr.priv p hp a ha
      by_cases c : LookC σ os os1 hs ms A0 a
      · exact ⟨by rw [x.sh a _ (stands a _ c e), e], g1 a c⟩
      · obtain ⟨b1, b2⟩ := rest a _ e q1 c fun ⟨j, b1, b2⟩ => q3 ⟨j, getD_le h1 b1, b2⟩
        exact ⟨by rw [b1, e], b2⟩
    have hvu : ∀ p ∈ ms, p.1 ∉ vs ∧ p.1 ∉ us := fun p hp => by
      have hpm : p.1 ∈ ms.ix := List.mem_map.mpr ⟨p, hp, rfl⟩
      refine ⟨fun z => (hvs _ z).2 hpm, fun z => ?_⟩
      have := getD_le h1 ((hus _).mpr z)
      rw [r.om _ hpm] at this; cases this
    refine ⟨fun p hp a ha => (cellK p hp a ha).1, ⟨fun p hp => ?_, fun p hp a ha => ⟨(cellK p hp a ha).2, (tr.priv p hp a ha).2.1, fun z => (tr.priv p hp a ha).2.2 ((ownσ a).mp z)⟩, tr.apart, tr.once⟩, fun p hp => by rw [putV_out (hvu p hp).1, putU_out (hvu p hp).2]⟩
    obtain ⟨v, d, q1, q2, q3⟩ := tr.tree p hp
    exact ⟨v, d, by rw [hch.2 _ (hvu p hp).1]; exact q1, by rw [putV_out (hvu p hp).1, putU_out (hvu p hp).2]; exact q2, q3.mono sS fun a ha => (cellK p hp a ha).1⟩
  refine ⟨S', g2, g1, hn, hext, ⟨⟨sH, ?_, fun i xx d e1 e2 => ?_, fun i j a a1 a2 e1 e2 => r.rel.sep i j a a1 a2 (by rw [← hch.2 i (hvi a1)]; exact e1) (by rw [← hch.2 j (hvi a2)]; exact e2)⟩, r.om, fun a q => r.own a ((ownσ a).mp q), A0, (keep A0 tr).2.1⟩, keep⟩
  · rw [wipeR_len, putV_len, putU_len, hch.1]; exact rlen
  · have hl : i < ρ.length := by
      have := (List.getElem?_eq_some_iff.mp e2).1
      rwa [wipeR_len, putV_len, putU_len] at this
    have hl1 : i < ρ1'.length := by rw [← rel1.len, hch.1, rlen]; exact hl
    by_cases hm : i ∈ ms.ix
    · rw [wipeR_in hm (by rw [putV_len, putU_len]; exact hl)] at e2
      cases e2
      rw [r.om i hm]
      cases xx <;> trivial
    · rw [wipeR_out hm] at e2
      by_cases hv : i ∈ vs
      · rw [putV_in hv (by rw [putU_len]; exact hl)] at e2
        have ho := (hvs i hv).1
        have ho1 : os1.getD i false = false := by
          cases z : os1.getD i false with
          | false => rfl
          | true => have := getD_le h1 z; rw [ho] at this; cases this
        have q := rel1.slot i xx _ e1 (getD_get hl1)
        rw [ho1] at q
        rw [ho]
        cases e2
        cases hd : ρ1'.getD i none with
        | none => cases xx <;> trivial
        | some d1 =>
          rw [hd] at q
          unfold tokO
          dsimp only
          split
          · rename_i ht
            cases xx with
            | none => exact q.elim
            | some v => exact tok_drop hn g2 (show At K S1' v d1 from q) ht
          · cases xx with
            | none => exact q.elim
            | some v => trivial
      · rw [putV_out hv] at e2
        by_cases hu : i ∈ us
        · rw [putU_in hu hl] at e2
          have ho1 := (hus i).mpr hu
          have q := rel1.slot i xx _ e1 (getD_get hl1)
          rw [ho1] at q
          rw [getD_le h1 ho1]
          cases e2
          cases hd : ρ1'.getD i none with
          | none =>
            rw [hd] at q
            cases xx with
            | none => trivial
            | some v => exact q.elim
          | some d1 =>
            rw [hd] at q
            cases xx with
            | none => exact q.elim
            | some v => exact own_drop hn g2 g1 (show OwnAt K S1' H1' v d1 from q) (htk i hu d1 (by rw [getD_get hl1, hd]))
        · rw [putU_out hu] at e2
          have ho1 : os1.getD i false = false := by
            cases z : os1.getD i false with
            | false => rfl
            | true => exact (hu ((hus i).mp z)).elim
          rw [hch.2 i hv] at e1
          have q := r.rel.slot i xx d e1 (by rw [wipeR_out hm]; exact e2)
          cases ho : os.getD i false <;> rw [ho] at q <;> cases xx <;> cases d <;> simp only [SlotAt] at q ⊢
          · exact q.mono sS
          · obtain ⟨a, ea, na, o, eo, bd⟩ := q
            subst ea
            by_cases hh : i ∈ hs
            · have nc : ¬ LookC σ os os1 hs ms A0 a := by
                rintro (⟨j, a1, a2, a3, a4⟩ | ⟨p, hp, _, ha⟩)
                · have := r.rel.sep i j a ho a1 e1 a4
                  exact a3 (this ▸ hh)
                · exact (tr.priv p hp a ha).2.2 ⟨i, ho, e1⟩
              obtain ⟨q1, q2⟩ := rest a o eo na nc fun ⟨j, b1, b2⟩ => by
                have := r.rel.sep i j a ho (getD_le h1 b1) e1 b2
                rw [← this, ho1] at b1; cases b1
              exact ⟨a, rfl, q2, o, q1, bd.mono sS⟩
            · have c : LookC σ os os1 hs ms A0 a := .inl ⟨i, ho, ho1, hh, e1⟩
              exact ⟨a, rfl, g1 a c, o, x.sh a o (stands a o c eo), bd.mono sS⟩
end
end SW

set_option maxRecDepth 100000
/-! SW64: statements of a def in which names hold trees (TS): base statements, looks, if, for, storing a tree, telling one; a def by its body. -/
namespace SW
open PySem PySem.Spec PyProof.Rows L2

/-- a new value whose lists are new cells -/
def RVT (K : PySem.W.Frag) (nd : Bool) : RR D V := fun H S' H' v d => ∃ A, Tr K S' H' A v d ∧ (∀ a ∈ A, S' a = none ∧ H a = none) ∧ (nd = true → A.Nodup)
theorem RVT.ok {K : PySem.W.Frag} {nd : Bool} : (RVT K nd).Ok := fun H H1 S' H' b d h ⟨A, q1, q2, q3⟩ => ⟨A, q1, fun a ha => ⟨(q2 a ha).1, h a (q2 a ha).2⟩, q3⟩
def VET (X : Cx) (W : WX) (os : Os) (e : Expr) (f : Rho → Out (D × Rho)) (os' : Os) (nd : Bool) : Prop :=
  ∃ t, PE X e t ∧ ∀ S σ H ρ Q, Rel X.K S H os σ ρ → Post X W S H os σ os' (RVT X.K nd) Q (f ρ) → t σ H Q

section
variable {K : PySem.W.Frag} {S H : Hp} {P : Addr → Prop} {os : Os} {ms : Ms} {σ : Sg} {ρ : Rho}
/-- only cells that are there -/
theorem RelT.tight (r : RelT K S H P os ms σ ρ) : RelT K S H (fun a => P a ∧ H a ≠ none) os ms σ ρ := by
  obtain ⟨A, tr⟩ := r.trees
  refine ⟨r.rel, r.om, fun a q => ⟨r.own a q, fun z => ?_⟩, A, ⟨tr.tree, fun p hp a ha => ⟨(tr.priv p hp a ha).1, ⟨(tr.priv p hp a ha).2.1, fun z => ?_⟩, (tr.priv p hp a ha).2.2⟩, tr.apart, tr.once⟩⟩
  · obtain ⟨_, o, eo⟩ := r.rel.owned q
    rw [z] at eo; cases eo
  · obtain ⟨v, d, _, _, q⟩ := tr.tree p hp
    obtain ⟨ws, e⟩ := q.cell a ha
    rw [z] at e; cases e
theorem RelT.weak {P' : Addr → Prop} (r : RelT K S H P os ms σ ρ) (h : ∀ a, P a → P' a) : RelT K S H P' os ms σ ρ := by
  obtain ⟨A, tr⟩ := r.trees
  exact ⟨r.rel, r.om, fun a q => h a (r.own a q), A, ⟨tr.tree, fun p hp a ha => ⟨(tr.priv p hp a ha).1, h a (tr.priv p hp a ha).2.1, (tr.priv p hp a ha).2.2⟩, tr.apart, tr.once⟩⟩
theorem RelT.of (r : Rel K S H os σ ρ) : RelT K S H (Own os σ) os [] σ ρ :=
  ⟨r, fun _ h => (nomatch h), fun _ q => q, fun _ => [], ⟨fun _ h => (nomatch h), fun _ h => (nomatch h), fun _ h => (nomatch h), fun _ h => (nomatch h)⟩⟩
theorem RelT.len (r : RelT K S H P os ms σ ρ) : σ.length = ρ.length := by have := r.rel.len; rwa [wipeR_len] at this
/-- nothing private is touched -/
theorem RelT.grow {O : Addr → Prop} {S' H' : Hp} (r : RelT K S H P os ms σ ρ) (x : Ext O S H S' H') (h : ∀ a, P a → ¬ O a) : RelT K S' H' P os ms σ ρ := by
  obtain ⟨A, tr⟩ := r.trees
  have key : ∀ p ∈ ms, ∀ a ∈ A p.1, H' a = H a ∧ S' a = none := fun p hp a ha => by
    obtain ⟨v, d, _, _, q⟩ := tr.tree p hp
    obtain ⟨ws, e⟩ := q.cell a ha
    obtain ⟨q1, q2, q3⟩ := tr.priv p hp a ha
    obtain ⟨b1, b2⟩ := x.fr a _ e q1 (h a q2)
    exact ⟨by rw [b1, e], b2⟩
  refine ⟨r.rel.grow x fun a q => h a (r.own a q), r.om, r.own, A, ⟨fun p hp => ?_, fun p hp a ha => ⟨(key p hp a ha).2, (tr.priv p hp a ha).2⟩, tr.apart, tr.once⟩⟩
  obtain ⟨v, d, e1, e2, q⟩ := tr.tree p hp
  exact ⟨v, d, e1, e2, q.mono x.s fun a ha => (key p hp a ha).1⟩
theorem RelT.ext0 {S' H' : Hp} (r : RelT K S H P os ms σ ρ) (x : Ext (fun _ => False) S H S' H') : RelT K S' H' P os ms σ ρ := r.grow x fun _ _ z => z

abbrev Ms.out (ms : Ms) (i : Nat) : Ms := ms.filter fun p => p.1 != i
theorem ix_out {i j : Nat} : j ∈ (ms.out i).ix ↔ j ∈ ms.ix ∧ j ≠ i := by
  constructor
  · intro h
    obtain ⟨p, hp, rfl⟩ := List.mem_map.mp h
    obtain ⟨h1, h2⟩ := List.mem_filter.mp hp
    exact ⟨List.mem_map.mpr ⟨p, h1, rfl⟩, by simpa using h2⟩
  · rintro ⟨h, hj⟩
    obtain ⟨p, hp, rfl⟩ := List.mem_map.mp h
    exact List.mem_map.mpr ⟨p, List.mem_filter.mpr ⟨hp, by simpa using hj⟩, rfl⟩
theorem mem_out {i : Nat} {p : Nat × Bool} : p ∈ ms.out i ↔ p ∈ ms ∧ p.1 ≠ i := by
  rw [Ms.out, List.mem_filter]; simp
/-- a slot stored with a new tree -/
theorem RelT.setT (r : RelT K S H P os ms σ ρ) {A : List Addr} {v : V} {d : D} (t : Tr K S H A v d) (ha : ∀ a ∈ A, S a = none ∧ ¬ P a) (i : Nat) {nd : Bool} (hn : nd = true → A.Nodup) (hi : i < σ.length) :
    RelT K S H (fun a => P a ∨ a ∈ A) (os.set i false) ((i, nd) :: ms.out i) (σ.set i (some v)) (ρ.set i (some d)) := by
  obtain ⟨B, tr⟩ := r.trees
  have hir : i < ρ.length := by rw [← r.len]; exact hi
  have hin : i ∈ Ms.ix ((i, nd) :: ms.out i) := List.mem_cons_self ..
  have hmem : ∀ j, j ≠ i → (j ∈ Ms.ix ((i, nd) :: ms.out i) ↔ j ∈ ms.ix) := fun j hj => ⟨fun h => (ix_out.mp ((List.mem_cons.mp h).resolve_left hj)).1, fun h => List.mem_cons_of_mem _ (ix_out.mpr ⟨h, hj⟩)⟩
  refine ⟨⟨r.rel.sub, ?_, fun j x y e1 e2 => ?_, fun j k a h1 h2 e1 e2 => ?_⟩, fun j hj => ?_, fun a q => .inl (r.own a (own_set q)), fun j => if j = i then A else B j, ⟨fun p hp => ?_, fun p hp a hpa => ?_, fun p hp q hq hpq a hpa hqa => ?_, fun p hp hb => ?_⟩⟩
  · rw [wipeR_len, List.length_set, List.length_set]; exact r.len
  · by_cases hj : i = j
    · subst hj
      rw [wipeR_in hin (by rw [List.length_set]; exact hir)] at e2
      cases e2
      rw [getD_set_self]
      cases x <;> trivial
    · rw [List.getElem?_set_ne hj] at e1
      rw [getD_set_ne hj]
      by_cases hm : j ∈ ms.ix
      · have hl : j < ρ.length := by
          have := (List.getElem?_eq_some_iff.mp e2).1
          rwa [wipeR_len, List.length_set] at this
        rw [wipeR_in ((hmem j fun z => hj z.symm).mpr hm) (by rw [List.length_set]; exact hl)] at e2
        cases e2
        rw [r.om j hm]
        cases x <;> trivial
      · rw [wipeR_out (fun z => hm ((hmem j fun z => hj z.symm).mp z)), List.getElem?_set_ne hj] at e2
        exact r.rel.slot j x y e1 (by rw [wipeR_out hm]; exact e2)
  · rcases getD_set h1 with ⟨hj, h1⟩ | ⟨_, z⟩
    · rcases getD_set h2 with ⟨hk, h2⟩ | ⟨_, z⟩
      · rw [List.getElem?_set_ne (fun z => hj z.symm)] at e1
        rw [List.getElem?_set_ne (fun z => hk z.symm)] at e2
        exact r.rel.sep j k a h1 h2 e1 e2
      · cases z
    · cases z
  · by_cases hji : j = i
    · subst hji; exact getD_set_self
    · rw [getD_set_ne fun z => hji z.symm]; exact r.om j ((hmem j hji).mp hj)
  · rcases List.mem_cons.mp hp with rfl | hp
    · exact ⟨v, d, by rw [List.getElem?_set_self hi], by rw [List.getElem?_set_self hir], by rw [if_pos rfl]; exact t⟩
    · obtain ⟨hp, hpi⟩ := mem_out.mp hp
      obtain ⟨v', d', e1, e2, q⟩ := tr.tree p hp
      exact ⟨v', d', by rw [List.getElem?_set_ne fun z => hpi z.symm]; exact e1, by rw [List.getElem?_set_ne fun z => hpi z.symm]; exact e2, by rw [if_neg hpi]; exact q⟩
  · rcases List.mem_cons.mp hp with rfl | hp
    · rw [if_pos rfl] at hpa
      exact ⟨(ha a hpa).1, .inr hpa, fun z => (ha a hpa).2 (r.own a (own_set z))⟩
    · obtain ⟨hp, hpi⟩ := mem_out.mp hp
      rw [if_neg hpi] at hpa
      obtain ⟨q1, q2, q3⟩ := tr.priv p hp a hpa
      exact ⟨q1, .inl q2, fun z => q3 (own_set z)⟩
  · rcases List.mem_cons.mp hp with rfl | hp <;> rcases List.mem_cons.mp hq with rfl | hq
    · exact hpq rfl
    · obtain ⟨hq, hqi⟩ := mem_out.mp hq
      rw [if_pos rfl] at hpa
      rw [if_neg hqi] at hqa
      exact (ha a hpa).2 (tr.priv q hq a hqa).2.1
    · obtain ⟨hp, hpi⟩ := mem_out.mp hp
      rw [if_neg hpi] at hpa
      rw [if_pos rfl] at hqa
      exact (ha a hqa).2 (tr.priv p hp a hpa).2.1
    · obtain ⟨hp, hpi⟩ := mem_out.mp hp
      obtain ⟨hq, hqi⟩ := mem_out.mp hq
      rw [if_neg hpi] at hpa
      rw [if_neg hqi] at hqa
      exact tr.apart p hp q hq hpq a hpa hqa
  · rcases List.mem_cons.mp hp with rfl | hp
    · rw [if_pos rfl]; exact hn hb
    · obtain ⟨hp, hpi⟩ := mem_out.mp hp
      rw [if_neg hpi]; exact tr.once p hp hb
/-- a slot stored with a new owned list or dict -/
theorem RelT.setO (r : RelT K S H P os ms σ ρ) {v : V} {d : D} (t : OwnAt K S H v d) (ha : ∀ a, v = .ref a → ¬ P a) (i : Nat) (hi : i < os.length) :
    RelT K S H (fun a => P a ∨ v = .ref a) (os.set i true) (ms.out i) (σ.set i (some v)) (ρ.set i (some d)) := by
  obtain ⟨B, tr⟩ := r.trees
  have hmem : ∀ j, j ≠ i → (j ∈ Ms.ix (ms.out i) ↔ j ∈ ms.ix) := fun j hj => ⟨fun h => (ix_out.mp h).1, fun h => ix_out.mpr ⟨h, hj⟩⟩
  have hni : i ∉ Ms.ix (ms.out i) := fun z => (ix_out.mp z).2 rfl
  have get : (os.set i true).getD i false = true := by simp [List.getD, hi]
  have nown : ∀ j a, os.getD j false = true → σ[j]? = some (some (.ref a)) → v ≠ .ref a := fun j a h1 h2 e => ha a e (r.own a ⟨j, h1, h2⟩)
  refine ⟨⟨r.rel.sub, ?_, fun j x y e1 e2 => ?_, fun j k a h1 h2 e1 e2 => ?_⟩, fun j hj => ?_, fun a q => ?_, B, ⟨fun p hp => ?_, fun p hp a hpa => ?_, fun p hp q hq => tr.apart p (mem_out.mp hp).1 q (mem_out.mp hq).1, fun p hp => tr.once p (mem_out.mp hp).1⟩⟩
  · rw [wipeR_len, List.length_set, List.length_set]; exact r.len
  · by_cases hj : i = j
    · subst hj
      have hl : i < σ.length := by
        have := (List.getElem?_eq_some_iff.mp e1).1
        rwa [List.length_set] at this
      rw [wipeR_out hni, List.getElem?_set_self (by rw [← r.len]; exact hl)] at e2
      rw [List.getElem?_set_self hl] at e1
      cases e1; cases e2
      rw [get]; exact t
    · rw [List.getElem?_set_ne hj] at e1
      rw [getD_set_ne hj]
      by_cases hm : j ∈ ms.ix
      · have hl : j < ρ.length := by
          have := (List.getElem?_eq_some_iff.mp e2).1
          rwa [wipeR_len, List.length_set] at this
        rw [wipeR_in ((hmem j fun z => hj z.symm).mpr hm) (by rw [List.length_set]; exact hl)] at e2
        cases e2
        rw [r.om j hm]
        cases x <;> trivial
      · rw [wipeR_out (fun z => hm ((hmem j fun z => hj z.symm).mp z)), List.getElem?_set_ne hj] at e2
        exact r.rel.slot j x y e1 (by rw [wipeR_out hm]; exact e2)
  · rcases getD_set h1 with ⟨hj, h1'⟩ | ⟨hj, _⟩
    · rw [List.getElem?_set_ne (fun z => hj z.symm)] at e1
      rcases getD_set h2 with ⟨hk, h2'⟩ | ⟨hk, _⟩
      · rw [List.getElem?_set_ne (fun z => hk z.symm)] at e2
        exact r.rel.sep j k a h1' h2' e1 e2
      · subst hk
        have hl : k < σ.length := by
          have := (List.getElem?_eq_some_iff.mp e2).1
          rwa [List.length_set] at this
        rw [List.getElem?_set_self hl] at e2
        exact (nown j a h1' e1 (Option.some.inj (Option.some.inj e2))).elim
    · rcases getD_set h2 with ⟨hk, h2'⟩ | ⟨hk, _⟩
      · rw [List.getElem?_set_ne (fun z => hk z.symm)] at e2
        subst hj
        have hl : j < σ.length := by
          have := (List.getElem?_eq_some_iff.mp e1).1
          rwa [List.length_set] at this
        rw [List.getElem?_set_self hl] at e1
        exact (nown k a h2' e2 (Option.some.inj (Option.some.inj e1))).elim
      · rw [hj, hk]
  · obtain ⟨h1, h2⟩ := ix_out.mp hj
    rw [getD_set_ne fun z => h2 z.symm]; exact r.om j h1
  · rcases own_setO q with q | q
    · exact .inl (r.own a q)
    · exact .inr q
  · obtain ⟨hp, hpi⟩ := mem_out.mp hp
    obtain ⟨v', d', e1, e2, q⟩ := tr.tree p hp
    exact ⟨v', d', by rw [List.getElem?_set_ne fun z => hpi z.symm]; exact e1, by rw [List.getElem?_set_ne fun z => hpi z.symm]; exact e2, q⟩
  · obtain ⟨hp, hpi⟩ := mem_out.mp hp
    obtain ⟨q1, q2, q3⟩ := tr.priv p hp a hpa
    refine ⟨q1, .inl q2, fun z => ?_⟩
    rcases own_setO z with z | z
    · exact q3 z
    · exact ha a z q2
/-- what a tree holds stands from now on -/
theorem RelT.fz (r : RelT K S H P os ms σ ρ) (i : Nat) : ∃ S', Same S S' ∧ Ext P S H S' H ∧ RelT K S' H P os (ms.out i) σ ρ := by
  classical
  by_cases hi : i ∈ ms.ix
  · obtain ⟨p, hp, rfl⟩ := List.mem_map.mp hi
    obtain ⟨B, tr⟩ := r.trees
    let S' : Hp := fun a => if a ∈ B p.1 then H a else S a
    have f1 : ∀ a, a ∈ B p.1 → S' a = H a := fun a z => if_pos z
    have f2 : ∀ a, a ∉ B p.1 → S' a = S a := fun a z => if_neg z
    have sm : Same S S' := fun a o e => by
      rw [f2 a fun z => by rw [(tr.priv p hp a z).1] at e; cases e]; exact e
    have sh : Same S' H := fun a o e => by
      by_cases z : a ∈ B p.1
      · rw [f1 a z] at e; exact e
      · rw [f2 a z] at e; exact r.rel.sub a o e
    refine ⟨S', sm, ⟨sm, sh, fun a o e n no => ⟨e, by rw [f2 a fun z => no (tr.priv p hp a z).2.1]; exact n⟩, fun _ e => e⟩, ⟨sh, by rw [wipeR_len]; exact r.len, fun j x y e1 e2 => ?_, r.rel.sep⟩, fun j hj => r.om j (ix_out.mp hj).1, r.own, B, ⟨fun q hq => ?_, fun q hq a ha => ?_, fun q hq q' hq' => tr.apart q (mem_out.mp hq).1 q' (mem_out.mp hq').1, fun q hq => tr.once q (mem_out.mp hq).1⟩⟩
    · by_cases hj : j = p.1
      · subst hj
        have hni : p.1 ∉ Ms.ix (ms.out p.1) := fun z => (ix_out.mp z).2 rfl
        rw [wipeR_out hni] at e2
        obtain ⟨v, d, q1, q2, q⟩ := tr.tree p hp
        rw [q1] at e1; rw [q2] at e2
        cases e1; cases e2
        rw [r.om _ hi]
        exact q.at sm f1
      · have hl : j < ρ.length := by
          have := (List.getElem?_eq_some_iff.mp e2).1
          rwa [wipeR_len] at this
        by_cases hm : j ∈ ms.ix
        · rw [wipeR_in (ix_out.mpr ⟨hm, hj⟩) hl] at e2
          cases e2
          rw [r.om j hm]
          cases x <;> trivial
        · rw [wipeR_out (fun z => hm (ix_out.mp z).1)] at e2
          have q := r.rel.slot j x y e1 (by rw [wipeR_out hm]; exact e2)
          cases hoj : os.getD j false <;> rw [hoj] at q <;> cases x <;> cases y <;> simp only [SlotAt] at q ⊢
          · exact q.mono sm
          · obtain ⟨b, eb, nb, o', eh', bd⟩ := q
            subst eb
            refine ⟨b, rfl, ?_, o', eh', bd.mono sm⟩
            rw [f2 b fun z => (tr.priv p hp b z).2.2 ⟨j, hoj, e1⟩]; exact nb
    · obtain ⟨hq, hqi⟩ := mem_out.mp hq
      obtain ⟨v, d, q1, q2, q3⟩ := tr.tree q hq
      exact ⟨v, d, q1, q2, q3.mono sm fun _ _ => rfl⟩
    · obtain ⟨hq, hqi⟩ := mem_out.mp hq
      obtain ⟨q1, q2⟩ := tr.priv q hq a ha
      exact ⟨by rw [f2 a (tr.apart q hq p hp hqi a ha)]; exact q1, q2⟩
  · have e : ms.out i = ms := List.filter_eq_self.mpr fun p hp => by
      have : p.1 ≠ i := fun z => hi (List.mem_map.mpr ⟨p, hp, z⟩)
      simpa using this
    refine ⟨S, Same.refl _, Ext.refl r.rel.sub, ?_⟩
    rw [e]; exact r
end

/-! ### the judgements -/
/-- what a def with trees tells: none: a value that stands; some nd: a tree of new cells -/
def RetT (K : PySem.W.Frag) (rk : Option Bool) (px : Os) (P : Addr → Prop) (σ : Sg) (H S' H' : Hp) (v : V) (d : D) : Prop := match rk with
  | none => At K S' v d
  | some nd => ∃ A, Tr K S' H' A v d ∧ (∀ a ∈ A, S' a = none ∧ (H a = none ∨ P a) ∧ ∀ i, px.getD i false = true → σ[i]? ≠ some (some (.ref a))) ∧ (nd = true → A.Nodup)
def PostT (X : Cx) (W : WX) (L : Lc) (rk : Option Bool) (S H : Hp) (P : Addr → Prop) (σ : Sg) (osN : Os) (msN : Ms) (Ds : Ends) : Out Fl → Prop
  | .ok (.nx ρ') => ∀ σ' S' H' P', Ext P S H S' H' → (∀ a, P' a → P a ∨ H a = none) → FixOn L.fx σ σ' → RelT X.K S' H' P' osN msN σ' ρ' → Ds.nx σ' H'
  | .ok (.rt d ρ') => ∀ v S' H', Ext P S H S' H' → RetT X.K rk L.px P σ H S' H' v d → (∀ i u, L.px.getD i false = true → σ[i]? = some (some u) → ∃ d', ρ'[i]? = some (some d') ∧ OwnAt X.K S' H' u d') → Ds.rt v H'
  | .ok (.bk _) => False
  | .ok (.ct _) => False
  | .exc c fs => ∀ σ' S' H' cls dd, Ext P S H S' H' → ExcAt X.K X.mg S' c fs cls dd → W cls dd σ' H'
  | .stuck => False
def TS (X : Cx) (W : WX) (L : Lc) (rk : Option Bool) (os : Os) (ms : Ms) (st : Stmt) (g : Rho → Out Fl) (osN : Os) (msN : Ms) : Prop :=
  ∃ t, PS X st t ∧ ∀ S σ H P ρ Ds, RelT X.K S H P os ms σ ρ → PostT X W L rk S H P σ osN msN Ds (g ρ) → t Ds σ H
def TSs (X : Cx) (W : WX) (L : Lc) (rk : Option Bool) (os : Os) (ms : Ms) (st : List Stmt) (g : Rho → Out Fl) (osN : Os) (msN : Ms) : Prop :=
  ∃ t, PSs X st t ∧ ∀ S σ H P ρ Ds, RelT X.K S H P os ms σ ρ → PostT X W L rk S H P σ osN msN Ds (g ρ) → t Ds σ H

section
variable {X : Cx} {W : WX} {L : Lc} {rk : Option Bool} {S H S1 H1 : Hp} {P P1 : Addr → Prop} {os os1 os2 osN : Os} {ms ms1 ms2 msN : Ms} {σ σ1 : Sg} {Ds : Ends}
theorem PostT.step {x : Out Fl} (p : PostT X W L rk S H P σ osN msN Ds x) (e : Ext P S H S1 H1) (o : ∀ a, P1 a → P a ∨ H a = none) (f : FixOn L.fx σ σ1) : PostT X W L rk S1 H1 P1 σ1 osN msN Ds x := by
  cases x with
  | ok z =>
    cases z with
    | nx ρ' => exact fun σ' S' H' P' e' o' f' r => p σ' S' H' P' (e.trans e' o) (fun a q => by
        rcases o' a q with q | q
        · exact o a q
        · exact .inr (e.there a q)) (f.trans f') r
    | bk ρ' => exact p
    | ct ρ' => exact p
    | rt d ρ' =>
      refine fun v S' H' e' r hk => p v S' H' (e.trans e' o) ?_ fun i u hf hs => hk i u hf (by rw [f.2 i (L.sub i hf)]; exact hs)
      cases rk with
      | none => exact r
      | some nd =>
        obtain ⟨A, q1, q2, q3⟩ := r
        refine ⟨A, q1, fun a ha => ⟨(q2 a ha).1, ?_, fun i hi => by rw [← f.2 i (L.sub i hi)]; exact (q2 a ha).2.2 i hi⟩, q3⟩
        rcases (q2 a ha).2.1 with q | q
        · exact .inl (e.there a q)
        · exact (o a q).symm
  | exc c fs => exact fun σ' S' H' cls dd e' q => p σ' S' H' cls dd (e.trans e' o) q
  | stuck => exact p
theorem PostT.fin {ρ : Rho} (p : PostT X W L rk S H P σ os ms Ds (.ok (.nx ρ))) (r : RelT X.K S H P os ms σ ρ) : Ds.nx σ H := p σ S H P (Ext.refl r.rel.sub) (fun _ q => .inl q) FixOn.refl r
end

section
variable {X : Cx} {W : WX} {L : Lc} {rk : Option Bool} {os os1 os2 osN : Os} {ms ms1 ms2 msN : Ms} {st : Stmt} {rest sts : List Stmt} {g h : Rho → Out Fl} {pos p : Pos} {e : Expr} {f : Rho → Out (D × Rho)}
theorem tss_nil : TSs X W L rk os ms [] sSkip os ms := ⟨_, pss_nil, fun S σ H P ρ Ds r p => p.fin r⟩
/-- one behind the other; break and continue lead nowhere -/
def sSeqT (g h : Rho → Out Fl) : Rho → Out Fl := fun ρ => (g ρ).bind fun y => match y with
  | .nx ρ => h ρ
  | .rt d ρ => .ok (.rt d ρ)
  | _ => .stuck
theorem tss_cons (a : TS X W L rk os ms st g os1 ms1) (b : TSs X W L rk os1 ms1 rest h os2 ms2) : TSs X W L rk os ms (st :: rest) (sSeqT g h) os2 ms2 := by
  obtain ⟨t, pt, kt⟩ := a
  obtain ⟨u, pu, ku⟩ := b
  refine ⟨_, pss_cons pt pu, fun S σ H P ρ Ds r p => kt S σ H P ρ _ r ?_⟩
  unfold sSeqT at p
  cases hg : g ρ with
  | ok z =>
    rw [hg] at p
    cases z with
    | nx ρ1 => exact fun σ1 S1 H1 P1 e1 o1 f1 r1 => ku S1 σ1 H1 P1 ρ1 Ds r1 (PostT.step (show PostT X W L rk S H P σ os2 ms2 Ds (h ρ1) from p) e1 o1 f1)
    | bk _ => exact p
    | ct _ => exact p
    | rt d ρ1 => exact p
  | exc c fs => rw [hg] at p; exact p
  | stuck => rw [hg] at p; exact p
theorem tss_one (a : TS X W L rk os ms st g os1 ms1) : TSs X W L rk os ms [st] g os1 ms1 := by
  obtain ⟨t, pt, kt⟩ := a
  exact ⟨t, pss_one pt, kt⟩
theorem TSs.to {o1 o2 : Os} {n1 n2 : Ms} (h : TSs X W L rk os ms sts g o1 n1) (e : o1 = o2 := by rfl) (e2 : n1 = n2 := by rfl) : TSs X W L rk os ms sts g o2 n2 := e ▸ e2 ▸ h
/-- what a tree holds stands behind the statements -/
theorem TSs.fz (i : Nat) (h : TSs X W L rk os ms sts g osN msN) : TSs X W L rk os ms sts g osN (msN.out i) := by
  obtain ⟨t, p, k⟩ := h
  refine ⟨t, p, fun S σ H P ρ Ds r q => k S σ H P ρ Ds r ?_⟩
  cases e : g ρ with
  | ok z =>
    rw [e] at q
    cases z with
    | nx ρ' =>
      intro σ' S' H' P' e' o' f' r'
      obtain ⟨S2, s2, x2, r2⟩ := r'.fz i
      exact q σ' S2 H' P' (e'.trans x2 o') o' f' r2
    | bk _ => exact q
    | ct _ => exact q
    | rt d ρ' => exact q
  | exc c fs => rw [e] at q; exact q
  | stuck => rw [e] at q; exact q
/-! ### base statements, the trees out of sight -/
def fxK (fx : Os) (ks : List Nat) : Os := (List.range (fx.length + ks.foldr (fun i n => max (i + 1) n) 0)).map fun j => fx.getD j false || ks.contains j
theorem fold_le {i : Nat} : ∀ {ks : List Nat}, i ∈ ks → i < ks.foldr (fun i n => max (i + 1) n) 0
  | k :: ks, h => by
    rw [List.foldr_cons]
    rcases List.mem_cons.mp h with rfl | h
    · omega
    · have := fold_le h; omega
theorem fxK_get {fx : Os} {ks : List Nat} {j : Nat} : (fxK fx ks).getD j false = (fx.getD j false || ks.contains j) := by
  unfold fxK
  by_cases h : j < fx.length + ks.foldr (fun i n => max (i + 1) n) 0
  · simp [List.getD, h]
  · have h1 : fx.length ≤ j := by omega
    have h2 : ks.contains j = false := by
      cases z : ks.contains j with
      | false => rfl
      | true => have := fold_le (by simpa using z : j ∈ ks); omega
    rw [h2]
    simp [List.getD, h1, h]
theorem fxK_of {fx : Os} {ks : List Nat} {j : Nat} (h : fx.getD j false = true) : (fxK fx ks).getD j false = true := by rw [fxK_get, h]; rfl
theorem fxK_in {fx : Os} {ks : List Nat} {j : Nat} (h : j ∈ ks) : (fxK fx ks).getD j false = true := by rw [fxK_get]; simp [h]
/-- the loop's own of a statement that keeps the slots ks, too -/
abbrev Lc.keep (L : Lc) (ks : List Nat) : Lc := ⟨fxK L.fx ks, [], [], false, L.px, fun i h => fxK_of (L.sub i h)⟩
def tBase (rk : Option Bool) (ks : List Nat) (g : Rho → Out Fl) : Rho → Out Fl := fun ρ => (g (wipeR ρ ks)).bind fun y => match y with
  | .nx ρ' => .ok (.nx (backR ks ρ ρ'))
  | .rt d ρ' => match rk with
    | none => .ok (.rt d (backR ks ρ ρ'))
    | some _ => .stuck
  | _ => .stuck
/-- behind a base statement that keeps the trees' slots -/
theorem RelT.base {K : PySem.W.Frag} {S H S' H' : Hp} {P : Addr → Prop} {σ σ' : Sg} {ρ ρ' : Rho} (r : RelT K S H P os ms σ ρ) (s : Stp os σ S H os1 σ' S' H') (f : ∀ i ∈ ms.ix, σ'[i]? = σ[i]?) (r1 : Rel K S' H' os1 σ' ρ') (hm : ∀ i ∈ ms.ix, os1.getD i false = false) :
    RelT K S' H' (fun a => P a ∨ Own os1 σ' a) os1 ms σ' (backR ms.ix ρ ρ') := by
  obtain ⟨A, tr⟩ := r.trees
  have key : ∀ p ∈ ms, ∀ a ∈ A p.1, H' a = H a ∧ S' a = none ∧ H a ≠ none := fun p hp a ha => by
    obtain ⟨v, d, _, _, q⟩ := tr.tree p hp
    obtain ⟨ws, e⟩ := q.cell a ha
    obtain ⟨q1, q2, q3⟩ := tr.priv p hp a ha
    obtain ⟨b1, b2⟩ := s.ext.fr a _ e q1 q3
    exact ⟨by rw [b1, e], b2, by rw [e]; exact fun z => nomatch z⟩
  have hl1 : σ'.length = ρ'.length := r1.len
  refine ⟨⟨r1.sub, by rw [wipeR_len, backR_len]; exact hl1, fun i x d e1 e2 => ?_, r1.sep⟩, hm, fun a q => .inr q, A, ⟨fun p hp => ?_, fun p hp a ha => ⟨(key p hp a ha).2.1, .inl (tr.priv p hp a ha).2.1, fun z => ?_⟩, tr.apart, tr.once⟩⟩
  · have hl : i < ρ'.length := by
      have := (List.getElem?_eq_some_iff.mp e2).1
      rwa [wipeR_len, backR_len] at this
    by_cases hi : i ∈ ms.ix
    · rw [wipeR_in hi (by rw [backR_len]; exact hl)] at e2
      cases e2
      rw [hm i hi]
      cases x <;> trivial
    · rw [wipeR_out hi, backR_out hi] at e2
      exact r1.slot i x d e1 e2
  · obtain ⟨v, d, e1, e2, q⟩ := tr.tree p hp
    have hpm : p.1 ∈ ms.ix := List.mem_map.mpr ⟨p, hp, rfl⟩
    have hlt : p.1 < ρ'.length := by
      rw [← hl1]
      exact (List.getElem?_eq_some_iff.mp ((f _ hpm).trans e1)).1
    refine ⟨v, d, (f _ hpm).trans e1, ?_, q.mono s.ext.s fun a ha => (key p hp a ha).1⟩
    rw [backR_in hpm hlt]
    simp [List.getD, e2]
  · rcases s.own a z with z | z
    · exact (tr.priv p hp a ha).2.2 z
    · exact (key p hp a ha).2.2 z
theorem ts_base (hv : VS X W (L.keep ms.ix) os st g os1) (hm : ms.ix.all (fun i => !os1.getD i false) = true := by rfl) (hpx : ms.ix.all (fun i => !L.px.getD i false) = true := by rfl) : TS X W L rk os ms st (tBase rk ms.ix g) os1 ms := by
  obtain ⟨t, pt, kt⟩ := hv
  refine ⟨t, pt, fun S σ H P ρ Ds r p => kt S σ H _ Ds r.rel ?_⟩
  unfold tBase at p
  cases hg : g (wipeR ρ ms.ix) with
  | exc c fs => rw [hg] at p; exact fun σ' S' H' cls dd x q => p σ' S' H' cls dd (x.weak fun a q => r.own a q) q
  | stuck => rw [hg] at p; exact p
  | ok z =>
    rw [hg] at p
    cases z with
    | bk _ => exact p.elim
    | ct _ => exact p.elim
    | nx ρ' =>
      intro σ' S' H' s' f' r'
      refine p σ' S' H' _ (s'.ext.weak fun a q => r.own a q) (fun a q => ?_) ⟨f'.1, fun i h => f'.2 i (fxK_of h)⟩ (r.base s' (fun i h => f'.2 i (fxK_in h)) r' fun i h => all_false hm h)
      rcases q with q | q
      · exact .inl q
      · rcases s'.own a q with q | q
        · exact .inl (r.own a q)
        · exact .inr q
    | rt d ρ' =>
      cases rk with
      | some nd => exact p.elim
      | none =>
        refine fun v S' H' x q hk => p v S' H' (x.weak fun a q => r.own a q) (by unfold RetAt at q; exact q) fun i u hi hs => ?_
        obtain ⟨d', e1, e2⟩ := hk i u hi hs
        refine ⟨d', ?_, e2⟩
        rw [backR_out fun z => by rw [all_false hpx z] at hi; cases hi]; exact e1

/-! ### looks -/
def usOf (os1 : Os) : List Nat := (List.range os1.length).filter fun i => os1.getD i false
theorem usOf_iff {os1 : Os} {i : Nat} : os1.getD i false = true ↔ i ∈ usOf os1 := by
  unfold usOf
  rw [List.mem_filter, List.mem_range]
  refine ⟨fun h => ⟨?_, h⟩, fun h => h.2⟩
  rcases Nat.lt_or_ge i os1.length with q | q
  · exact q
  · rw [List.getD, List.getElem?_eq_none q] at h; cases h
def okUs (us : List Nat) (ρ : Rho) : Bool := us.all fun i => match ρ.getD i none with
  | some d => ownTok d
  | none => true
theorem okUs_of {us : List Nat} {ρ : Rho} (h : okUs us ρ = true) : ∀ i ∈ us, ∀ d, ρ[i]? = some (some d) → ownTok d = true := fun i hi d e => by
  have q := List.all_eq_true.mp h i hi
  have e2 : ρ.getD i none = some d := by simp [List.getD, e]
  rw [e2] at q
  exact q
/-- a statement under a look: hs stay out of sight, os1 may be turned, vs are stored -/
def tLook (rk : Option Bool) (n : Nat) (us hs vs : List Nat) (g : Rho → Out Fl) : Rho → Out Fl := fun ρ => if ρ.length = n then (g (wipeR ρ hs)).bind fun y => match y with
  | .nx ρ1 => if okUs us ρ1 = true then .ok (.nx (putV vs ρ1 (putU us ρ1 ρ))) else .stuck
  | .rt d ρ1 => match rk with
    | none => .ok (.rt d ρ1)
    | some _ => .stuck
  | _ => .stuck else .stuck
def tTest (us hs : List Nat) (gc : Rho → Out (Bool × Rho)) : Rho → Out (Bool × Rho) := fun ρ => (gc (wipeR ρ hs)).bind fun p => if okUs us p.2 = true then .ok (p.1, putU us p.2 ρ) else .stuck
theorem ChOn.nil {σ : Sg} : ChOn [] σ σ := ⟨rfl, fun _ _ => rfl⟩
/-- an expression's outcome under a look -/
theorem Seen.exp {α β : Type} {R : RR α β} {S H : Hp} {P : Addr → Prop} {σ : Sg} {ρ : Rho} {C : Addr → Prop} {S1 : Hp} {Q : β → Hp → Prop} {hs : List Nat} {x : Out (α × Rho)} (q : Seen X.K S H P os os1 hs ms σ ρ C S1)
    (hx : ∀ c fs, x = .exc c fs → ∀ S' H' cls dd, Ext P S H S' H' → ExcAt X.K X.mg S' c fs cls dd → W cls dd σ H') (hst : x ≠ .stuck)
    (k : ∀ d ρ1, x = .ok (d, ρ1) → okUs (usOf os1) ρ1 = true ∧ ∀ b S1' H1 S', R H S1' H1 b d → (∀ a, ¬ C a → S' a = S1' a) → (∀ a, C a → S' a = none) → NoTup S1' C → Ext P S H S' H1 → RelT X.K S' H1 P os ms σ (putU (usOf os1) ρ1 ρ) → Kept X.K S H S' H1 P os ms σ σ ρ (putU (usOf os1) ρ1 ρ) → Q b H1) : Post X W S1 H os1 σ os1 R Q x := by
  cases x with
  | exc c fs => exact fun S' H' cls dd x e => hx c fs rfl S' H' cls dd (q.ext x) e
  | stuck => exact (hst rfl).elim
  | ok z =>
    obtain ⟨d, ρ1⟩ := z
    obtain ⟨k1, k2⟩ := k d ρ1 rfl
    intro b S1' H1 s' r' qb
    obtain ⟨S2, g1, g2, g3, x2, r2, kp⟩ := q.back (vs := []) (fun i => usOf_iff) (fun i hi => nomatch hi) ChOn.nil s'.ext r' (okUs_of k1)
    exact k2 b S1' H1 S2 qb g1 g2 g3 x2 r2 kp
theorem ts_if {c : Expr} {a b : List Stmt} {gc : Rho → Out (Bool × Rho)} (os1 : Os) (us hs : List Nat) (hc : VT X W os1 c gc os1) (ha : TSs X W L rk os ms a g os2 ms2) (hb : TSs X W L rk os ms b h os2 ms2) (hus : usOf os1 = us := by rfl) (h1 : Le os1 os := by rfl) (h2 : hs.all (fun i => !os1.getD i false) = true := by rfl) :
    TS X W L rk os ms (.If c a b pos) (sIf (tTest us hs gc) g h) os2 ms2 := by
  subst hus
  obtain ⟨t, pt, kt⟩ := hc
  obtain ⟨ta, pa, ka⟩ := ha
  obtain ⟨tb, pb, kb⟩ := hb
  refine ⟨_, ps_if pt pa pb, fun S σ H P ρ Ds r p => ?_⟩
  obtain ⟨C, S1, q⟩ := r.look hs os1 h1 fun i hi z => by rw [all_false h2 z] at hi; cases hi
  refine kt S1 σ H _ _ q.rel (q.exp (fun c fs e => ?_) (fun e => ?_) fun d ρ1 e => ?_)
  · unfold sIf tTest at p; rw [e] at p; exact fun S' H' cls dd x y => p σ S' H' cls dd x y
  · unfold sIf tTest at p; rw [e] at p; exact p
  · unfold sIf tTest at p
    rw [e] at p
    have p : PostT X W L rk S H P σ os2 ms2 Ds ((if okUs (usOf os1) ρ1 = true then Out.ok (d, putU (usOf os1) ρ1 ρ) else .stuck).bind fun p => if p.1 = true then g p.2 else h p.2) := p
    split at p
    case isFalse => exact p.elim
    rename_i hok
    refine ⟨hok, fun bb S1' H1 S' qb g1 g2 g3 x2 r2 _ => ?_⟩
    have p : PostT X W L rk S H P σ os2 ms2 Ds (if d = true then g (putU (usOf os1) ρ1 ρ) else h (putU (usOf os1) ρ1 ρ)) := p
    cases qb
    cases d with
    | true => exact ka S' σ H1 P _ Ds r2 (PostT.step p x2 (fun _ z => .inl z) FixOn.refl)
    | false => exact kb S' σ H1 P _ Ds r2 (PostT.step p x2 (fun _ z => .inl z) FixOn.refl)

/-! ### trees stored and told -/
def tSetT (us hs : List Nat) (i : Nat) (f : Rho → Out (D × Rho)) : Rho → Out Fl := fun ρ => (f (wipeR ρ hs)).bind fun p => if (okUs us p.2 && decide (i < ρ.length)) = true then .ok (.nx ((putU us p.2 ρ).set i (some p.1))) else .stuck
end
end SW

set_option maxRecDepth 100000
/-! SW65: expressions that give trees (VET), lists of them (VAT), comprehensions of them; promises of defs that tell trees (specT); the way in from base statements. -/
namespace SW
open PySem PySem.Spec PyProof.Rows L2

/-- values that are trees -/
def RLT (K : PySem.W.Frag) (n : Nat) (nd : Bool) : RR (List D) (List V) := fun H S' H' vs ds => ds.length = n ∧ ∃ A, TrL K S' H' A vs ds ∧ (∀ a ∈ A, S' a = none ∧ H a = none) ∧ (nd = true → A.Nodup)
theorem RLT.ok {K : PySem.W.Frag} {n : Nat} {nd : Bool} : (RLT K n nd).Ok := fun H H1 S' H' b d h ⟨l, A, q1, q2, q3⟩ => ⟨l, A, q1, fun a ha => ⟨(q2 a ha).1, h a (q2 a ha).2⟩, q3⟩
def VAT (X : Cx) (W : WX) (os : Os) (es : List Expr) (f : Rho → Out (List D × Rho)) (os' : Os) (nd : Bool) : Prop :=
  ∃ t, PA X es t ∧ ∀ S σ H ρ Q, Rel X.K S H os σ ρ → Post X W S H os σ os' (RLT X.K es.length nd) Q (f ρ) → t σ H Q
/-- a new list without lists in it -/
def eTrO (f : Rho → Out (D × Rho)) : Rho → Out (D × Rho) := fun ρ => (f ρ).bind fun p => match p.1 with
  | .lst ds => if tokL ds = true then .ok (.lst ds, p.2) else .stuck
  | _ => .stuck
/-- a value without lists -/
def eTrL (f : Rho → Out (D × Rho)) : Rho → Out (D × Rho) := fun ρ => (f ρ).bind fun p => if tokD p.1 = true then .ok (p.1, p.2) else .stuck
section
variable {X : Cx} {W : WX} {L : Lc} {rk : Option Bool} {os os1 os2 osN : Os} {ms ms1 ms2 msN : Ms} {e e1 e2 : Expr} {es : List Expr} {f f1 f2 : Rho → Out (D × Rho)} {g : Rho → Out (List D × Rho)} {pos p : Pos} {nd : Bool}
theorem own_tree {K : PySem.W.Frag} {S H : Hp} {v : V} {ds : List D} (q : OwnAt K S H v (.lst ds)) (t : tokL ds = true) : ∃ a, v = .ref a ∧ S a = none ∧ Tr K S H [a] v (.lst ds) := by
  obtain ⟨a, e, n, o, eh, bd⟩ := q
  cases bd with
  | lst z r => exact ⟨a, e, n, by subst e; exact .lst eh (fun z => nomatch z) z (TrL.leaves r t)⟩
theorem vet_own (h : VE X W os e f os1 true) : VET X W os e (eTrO f) os1 nd := by
  obtain ⟨t, pt, k⟩ := h
  refine ⟨t, pt, fun S σ H ρ Q rel P => k S σ H ρ Q rel ?_⟩
  unfold eTrO at P
  cases hf : f ρ with
  | exc c fs => rw [hf] at P; exact P
  | stuck => rw [hf] at P; exact P
  | ok z =>
    obtain ⟨d, ρ1⟩ := z
    rw [hf] at P
    intro v S' H' st r q
    have q : OwnAt X.K S' H' v d ∧ ∀ a, v = .ref a → H a = none := q
    rw [bind_ok] at P
    dsimp only at P
    cases d with
    | lst ds =>
      dsimp only at P
      split at P
      · rename_i ht
        obtain ⟨a, e, n, tr⟩ := own_tree q.1 ht
        exact P v S' H' st r ⟨[a], tr, fun b hb => by
          rw [List.mem_singleton] at hb
          subst hb
          exact ⟨n, q.2 b e⟩, fun _ => List.nodup_cons.mpr ⟨fun z => (nomatch z), List.nodup_nil⟩⟩
      · exact P.elim
    | _ => exact P.elim
theorem VET.weak (h : VET X W os e f os1 true) : VET X W os e f os1 false := by
  obtain ⟨t, pt, k⟩ := h
  refine ⟨t, pt, fun S σ H ρ Q rel P => k S σ H ρ Q rel ?_⟩
  cases hf : f ρ with
  | exc c fs => rw [hf] at P; exact P
  | stuck => rw [hf] at P; exact P
  | ok z =>
    rw [hf] at P
    exact fun v S' H' st r ⟨A, q1, q2, q3⟩ => P v S' H' st r ⟨A, q1, q2, fun z => nomatch z⟩
theorem vat_nil : VAT X W os [] aNil os nd := ⟨_, pa_nil, fun S σ H ρ Q rel P => P.fin (os' := os) rel ⟨rfl, [], .nil, fun _ h => (nomatch h), fun _ => List.nodup_nil⟩⟩
theorem vat_cons (ha : VET X W os e f os1 nd) (hb : VAT X W os1 es g os2 nd) (hle : Le os1 os := by rfl) (hs : starEach (e :: es) X.env = (false, eval e X.env) :: starEach es X.env := by rfl) :
    VAT X W os (e :: es) (aCons f g) os2 nd := by
  obtain ⟨ta, pa, ka⟩ := ha
  obtain ⟨tb, pb, kb⟩ := hb
  refine ⟨_, pa_cons pa pb hs, fun S σ H ρ Q rel P => ?_⟩
  refine ka S σ H ρ _ rel (Post.seq P (fun z => z) (fun c fs p => p) fun d ρ1 v S1 H1 st1 rel1 q1 P1 => ?_)
  refine kb S1 σ H1 ρ1 _ rel1 (Post.seq P1 (fun z => z) (fun c fs p S' H' cls dd e q => p S' H' cls dd (st1.ext.trans e st1.own) q) fun d2 ρ2 v2 S2 H2 st2 rel2 q2 P2 => ?_)
  obtain ⟨A, a1, a2, a3⟩ := q1
  obtain ⟨l2, B, b1, b2, b3⟩ := q2
  have key : ∀ a ∈ A, H2 a = H1 a ∧ S2 a = none ∧ H1 a ≠ none := fun a ha => by
    obtain ⟨ws, e⟩ := a1.cell a ha
    have no : ¬ Own os1 σ a := fun ⟨j, h1, h2⟩ => by
      obtain ⟨_, o, eo⟩ := rel.owned ⟨j, getD_le hle h1, h2⟩
      rw [(a2 a ha).2] at eo; cases eo
    obtain ⟨q1, q2⟩ := st2.ext.fr a _ e (a2 a ha).1 no
    exact ⟨by rw [q1, e], q2, by rw [e]; exact fun z => nomatch z⟩
  refine P2 (v :: v2) S2 H2 (st1.trans st2) rel2 ⟨by rw [List.length_cons, List.length_cons, l2], A ++ B, .cons (a1.mono st2.ext.s fun a ha => (key a ha).1) b1, fun a ha => ?_, fun z => ?_⟩
  · rcases List.mem_append.mp ha with h | h
    · exact ⟨(key a h).2.1, (a2 a h).2⟩
    · exact ⟨(b2 a h).1, st1.ext.there a (b2 a h).2⟩
  · refine List.nodup_append.mpr ⟨a3 z, b3 z, fun a ha b hb hab => ?_⟩
    subst hab
    exact (key a ha).2.2 (b2 a hb).2
theorem vet_lst (ha : VAT X W os es g os1 nd) (hz : es.length ≤ 1000 := by decide) : VET X W os (.List es pos) (eLst g) os1 nd := by
  obtain ⟨ta, pa, ka⟩ := ha
  refine ⟨_, pe_lst pa, fun S σ H ρ Q rel P => ?_⟩
  refine ka S σ H ρ _ rel (Post.seq P (fun z => z) (fun c fs p => p) fun d ρ1 vs S1 H1 st1 rel1 q1 P1 => ?_)
  obtain ⟨l, A, a1, a2, a3⟩ := q1
  refine ⟨by rw [a1.length, l]; exact sz1000 hz, fun p np => ?_⟩
  have x := Ext.newO (O := fun _ => False) (o := .lst vs) rel1.sub np
  have ne : ∀ a ∈ A, a ≠ p := fun a ha z => by
    obtain ⟨ws, e⟩ := a1.cell a ha
    rw [z, np] at e; cases e
  refine P1 _ _ _ (st1.trans (Stp.of_ext x)) (rel1.ext0 x) ⟨p :: A, .lst upd_same (fun hp => ne p hp rfl) (by rw [l]; exact sz1000 hz) (a1.mono x.s fun a ha => upd_ne (ne a ha)), fun a ha => ?_, fun z => List.nodup_cons.mpr ⟨fun hp => ne p hp rfl, a3 z⟩⟩
  rcases List.mem_cons.mp ha with rfl | ha
  · exact ⟨rel1.sub.free np, st1.ext.there _ np⟩
  · exact a2 a ha
end
end SW

set_option maxRecDepth 100000
/-! SW66: comprehensions of trees; owned results, trees told, for, the way in from base statements; promises of defs that tell trees. -/
namespace SW
open PySem PySem.Spec PyProof.Rows L2
section
variable {X : Cx} {W : WX} {L : Lc} {rk : Option Bool} {os os1 os2 os3 osN : Os} {ms ms1 ms2 msN : Ms} {e e1 e2 : Expr} {es : List Expr} {f f1 f2 : Rho → Out (D × Rho)} {g h : Rho → Out Fl} {pos p : Pos} {nd : Bool} {st : Stmt} {sts : List Stmt}
theorem setT_run {te : TE} (os1 : Os) (us hs : List Nat) (i : Nat) (kt : ∀ S σ H ρ Q, Rel X.K S H os1 σ ρ → Post X W S H os1 σ os1 (RVT X.K nd) Q (f ρ) → te σ H Q) (h1 : Le os1 os) (h2 : hs.all (fun i => !os1.getD i false) = true) (hfi : L.fx.getD i false = false) (hus : usOf os1 = us) :
    ∀ S σ H P ρ Ds, RelT X.K S H P os ms σ ρ → PostT X W L rk S H P σ (os.set i false) ((i, nd) :: ms.out i) Ds (tSetT us hs i f ρ) → tAsg te (L2.gName i) Ds σ H := by
  subst hus
  intro S σ H P ρ Ds r0 p
  have r := r0.tight
  obtain ⟨C, S1, q⟩ := r.look hs os1 h1 fun i hi z => by rw [all_false h2 z] at hi; cases hi
  refine kt S1 σ H _ _ q.rel (q.exp (fun c fs e => ?_) (fun e => ?_) fun d ρ1 e => ?_)
  · unfold tSetT at p; rw [e] at p; exact fun S' H' cls dd x y => p σ S' H' cls dd (x.weak fun a z => z.1) y
  · unfold tSetT at p; rw [e] at p; exact p
  · unfold tSetT at p
    rw [e] at p
    have p : PostT X W L rk S H P σ (os.set i false) ((i, nd) :: ms.out i) Ds (if (okUs (usOf os1) ρ1 && decide (i < ρ.length)) = true then .ok (.nx ((putU (usOf os1) ρ1 ρ).set i (some d))) else .stuck) := p
    split at p
    case isFalse => exact p.elim
    rename_i hok
    rw [Bool.and_eq_true, decide_eq_true_eq] at hok
    refine ⟨hok.1, fun v S1' H1 S' qb g1 g2 g3 x2 r2 _ => ?_⟩
    obtain ⟨A, b1, b2, b3⟩ := qb
    have hA : ∀ a ∈ A, S' a = none ∧ ¬ (P a ∧ H a ≠ none) := fun a ha => by
      refine ⟨?_, fun z => z.2 (b2 a ha).2⟩
      by_cases z : C a
      · exact g2 a z
      · rw [g1 a z]; exact (b2 a ha).1
    refine p _ S' H1 _ (x2.weak fun a z => z.1) (fun a z => ?_) (fix_set hfi) (r2.setT (b1.drop g3 g1) hA i b3 (by rw [r0.len]; exact hok.2))
    rcases z with z | z
    · exact .inl z.1
    · exact .inr (b2 a z).2

/-- x = e, e a new tree -/
theorem ts_setT (os1 : Os) (us hs : List Nat) (i : Nat) {x : Str} (he : VET X W os1 e f os1 nd) (hN : X.N.Nodup) (hus : usOf os1 = us := by rfl) (h1 : Le os1 os := by rfl) (h2 : hs.all (fun i => !os1.getD i false) = true := by rfl) (hi : X.N[i]? = some x := by rfl) (hx : Loc X.env.scope x := by first | exact Or.inl rfl | exact Or.inr rfl) (hfi : L.fx.getD i false = false := by rfl)
    (hs' : swapsWith e (some (.Name x p)) pos.line X.env = pure false := by rfl) (hf : X.fn x = true ∨ X.env.scope.names.lookup x = some .local := by first | exact .inl rfl | exact .inr rfl | assumption) : TS X W L rk os ms (.Assign [.Name x p] e pos) (tSetT us hs i f) (os.set i false) ((i, nd) :: ms.out i) := by
  obtain ⟨t, pt, kt⟩ := he
  exact ⟨_, ps_set hN hi hx pt hs' hf, setT_run os1 us hs i kt h1 h2 hfi hus⟩

/-! ### comprehensions of trees -/
variable {elt tg iter : Expr} {ifs : List Expr} {scope : Scope} {own : List (Str × Nat)} {ch : List Nat}
  {fi : Rho → Out (List D × Rho)} {b : D → Rho → Option Rho} {tt : Rho → Out (Bool × Rho)} {fe : Rho → Out (D × Rho)}
end
end SW

set_option maxRecDepth 100000
/-! SW67: owned results under a look, trees told, for, the way in from base statements; promises of defs that tell trees, their calls. -/
namespace SW
open PySem PySem.Spec PyProof.Rows L2
section
variable {X : Cx} {W : WX} {L : Lc} {rk : Option Bool} {os os1 os2 os3 osN : Os} {ms ms1 ms2 msN : Ms} {e e1 e2 : Expr} {es : List Expr} {f f1 f2 : Rho → Out (D × Rho)} {g h : Rho → Out Fl} {pos p : Pos} {nd : Bool} {st : Stmt} {sts : List Stmt}
/-- x = e, e a new list or dict without lists in it; x owns it -/
def tSetO (us hs : List Nat) (i : Nat) (f : Rho → Out (D × Rho)) : Rho → Out Fl := fun ρ => (f (wipeR ρ hs)).bind fun p => if (okUs us p.2 && ownTok p.1) = true then .ok (.nx ((putU us p.2 ρ).set i (some p.1))) else .stuck
/-! ### trees told -/
def tRetT (us hs : List Nat) (f : Rho → Out (D × Rho)) : Rho → Out Fl := fun ρ => (f (wipeR ρ hs)).bind fun p => if okUs us p.2 = true then .ok (.rt p.1 (putU us p.2 ρ)) else .stuck
/-! ### for -/
def forT (ks : List Nat) (b : D → Rho → Option Rho) (g : Rho → Out Fl) : List D → Rho → Out Fl
  | [], ρ => .ok (.nx ρ)
  | x :: xs, ρ => match b x (wipeR ρ ks) with
    | none => .stuck
    | some ρ1 => (g (backR ks ρ ρ1)).bind fun y => match y with
      | .nx ρ2 => forT ks b g xs ρ2
      | .rt d ρ2 => .ok (.rt d ρ2)
      | _ => .stuck
def tFor (ks : List Nat) (fi : Rho → Out (List D × Rho)) (b : D → Rho → Option Rho) (g : Rho → Out Fl) : Rho → Out Fl := fun ρ => (fi (wipeR ρ ks)).bind fun p => forT ks b g p.1 (backR ks ρ p.2)
variable {tg iter : Expr} {ch : List Nat}
/-! ### the way in from base statements -/
def sTree (g : Rho → Out Fl) : Rho → Out Fl := fun ρ => (g ρ).bind fun y => match y with
  | .nx ρ => .ok (.nx ρ)
  | .rt d ρ => .ok (.rt d ρ)
  | _ => .stuck
theorem vss_tree (h : TSs X W L none os [] sts g osN []) (hr : L.r = false := by rfl) : VSs X W L os sts (sTree g) osN := by
  obtain ⟨t, pt, kt⟩ := h
  refine ⟨t, pt, fun S σ H ρ Ds rel p => kt S σ H _ ρ Ds (RelT.of rel) ?_⟩
  unfold sTree at p
  cases hg : g ρ with
  | exc c fs => rw [hg] at p; exact p
  | stuck => rw [hg] at p; exact p
  | ok z =>
    rw [hg] at p
    cases z with
    | nx ρ' => exact fun σ' S' H' P' x o f r => p σ' S' H' ⟨x, fun a q => o a (r.own a q)⟩ f r.rel
    | bk ρ' => exact p
    | ct ρ' => exact p
    | rt d ρ' => exact fun v S' H' x q hk => p v S' H' x (by unfold RetAt; rw [hr]; exact q) hk
end

/-! ### promises of defs that tell trees -/
section
variable {P : Program} {w : World} {K : PySem.W.Frag} {mg : Str → Option Value} {base : Heap}
end
section
variable {X : Cx} {W : WX} {os os1 os2 os3 : Os} {e : Expr} {es : List Expr} {pos p : Pos} {nd : Bool} {g : Rho → Out (List D × Rho)}
/-- a tree that is told stands from now on -/
theorem VET.fz {f : Rho → Out (D × Rho)} (h : VET X W os e f os1 nd) (hle : Le os1 os := by rfl) : VE X W os e f os1 false := by
  classical
  obtain ⟨t, pt, k⟩ := h
  refine ⟨t, pt, fun S σ H ρ Q rel P => k S σ H ρ Q rel ?_⟩
  cases hf : f ρ with
  | exc c fs => rw [hf] at P; exact P
  | stuck => rw [hf] at P; exact P
  | ok z =>
    obtain ⟨d, ρ1⟩ := z
    rw [hf] at P
    intro v S' H' st r q
    obtain ⟨A, a1, a2, _⟩ := q
    let S2 : Hp := fun a => if a ∈ A then H' a else S' a
    have f1 : ∀ a, a ∈ A → S2 a = H' a := fun a z => if_pos z
    have f2 : ∀ a, a ∉ A → S2 a = S' a := fun a z => if_neg z
    have sm : Same S' S2 := fun a o e => by
      rw [f2 a fun z => by rw [(a2 a z).1] at e; cases e]; exact e
    have sh : Same S2 H' := fun a o e => by
      by_cases z : a ∈ A
      · rw [f1 a z] at e; exact e
      · rw [f2 a z] at e; exact r.sub a o e
    have nown : ∀ a, a ∈ A → ¬ Own os1 σ a := fun a ha ⟨j, h1, h2⟩ => by
      obtain ⟨_, o, eo⟩ := rel.owned ⟨j, getD_le hle h1, h2⟩
      rw [(a2 a ha).2] at eo; cases eo
    refine P v S2 H' ⟨⟨st.ext.s.trans sm, sh, fun a o e n no => ?_, st.ext.there⟩, st.own⟩ ⟨sh, r.len, fun i x y e1 e2 => ?_, r.sep⟩ (a1.at sm f1)
    · obtain ⟨q1, q2⟩ := st.ext.fr a o e n no
      exact ⟨q1, by rw [f2 a fun z => by rw [(a2 a z).2] at e; cases e]; exact q2⟩
    · have q := r.slot i x y e1 e2
      cases ho : os1.getD i false <;> rw [ho] at q <;> cases x <;> cases y <;> simp only [SlotAt] at q ⊢
      · exact q.mono sm
      · obtain ⟨a, ea, na, o, eo, bd⟩ := q
        subst ea
        exact ⟨a, rfl, by rw [f2 a fun z => nown a z ⟨i, ho, e1⟩]; exact na, o, eo, bd.mono sm⟩
end
end SW

set_option maxRecDepth 100000
/-! SW68: trees turned: append, clear, the lists in a list cleared one by one; a tree made anew of itself. -/
namespace SW
open PySem PySem.Spec PyProof.Rows L2
section
variable {K : PySem.W.Frag} {S H H2 : Hp} {P : Addr → Prop} {os : Os} {ms : Ms} {σ : Sg} {ρ : Rho} {A : Nat → List Addr} {i : Nat}
/-- the tree of a slot is turned -/
theorem RelT.turn (r : RelT K S H P os ms σ ρ) (tr : Trees K S H P os ms σ ρ A) (hin : i ∈ ms.ix) {A2 : List Addr} {v : V} {d : D} (t : Tr K S H2 A2 v d) (hs : σ[i]? = some (some v)) (hch : ∀ a, a ∉ A i → H2 a = H a) (there : ∀ a, H a ≠ none → H2 a ≠ none)
    (hA : ∀ a ∈ A2, a ∈ A i ∨ (S a = none ∧ ¬ P a)) (hn : (i, true) ∈ ms → A2.Nodup) : RelT K S H2 (fun a => P a ∨ a ∈ A2) os ms σ (ρ.set i (some d)) ∧ Ext P S H S H2 := by
  obtain ⟨p0, hp0, e0⟩ := List.mem_map.mp hin
  have keep : ∀ p ∈ ms, p.1 ≠ i → ∀ a ∈ A p.1, H2 a = H a := fun p hp hne a ha => hch a fun z => tr.apart p hp p0 hp0 (by rw [e0]; exact hne) a ha (by rw [e0]; exact z)
  have priv : ∀ a ∈ A i, S a = none ∧ P a ∧ ¬ Own os σ a := fun a ha => tr.priv p0 hp0 a (by rw [e0]; exact ha)
  have sub : Same S H2 := fun a o e => by
    rw [hch a fun z => by rw [(priv a z).1] at e; cases e]; exact r.rel.sub a o e
  have hl : i < ρ.length := by
    rw [← r.len]; exact (List.getElem?_eq_some_iff.mp hs).1
  refine ⟨⟨⟨sub, by rw [wipeR_len, List.length_set]; exact r.len, fun j x y e1 e2 => ?_, r.rel.sep⟩, r.om, fun a q => .inl (r.own a q), fun j => if j = i then A2 else A j, ⟨fun p hp => ?_, fun p hp a ha => ?_, fun p hp q hq hpq a ha hqa => ?_, fun p hp hb => ?_⟩⟩, ⟨Same.refl _, sub, fun a o e n no => ⟨by rw [hch a fun z => no (priv a z).2.1]; exact e, n⟩, fun a e => ?_⟩⟩
  · have hl2 : j < ρ.length := by
      have := (List.getElem?_eq_some_iff.mp e2).1
      rwa [wipeR_len, List.length_set] at this
    by_cases hm : j ∈ ms.ix
    · rw [wipeR_in hm (by rw [List.length_set]; exact hl2)] at e2
      cases e2
      rw [r.om j hm]
      cases x <;> trivial
    · have hij : i ≠ j := fun z => hm (z ▸ hin)
      rw [wipeR_out hm, List.getElem?_set_ne hij] at e2
      have q := r.rel.slot j x y e1 (by rw [wipeR_out hm]; exact e2)
      cases hoj : os.getD j false <;> rw [hoj] at q <;> cases x <;> cases y <;> simp only [SlotAt] at q ⊢
      · exact q
      · obtain ⟨b, eb, nb, o', eh', bd⟩ := q
        subst eb
        exact ⟨b, rfl, nb, o', by rw [hch b fun z => (priv b z).2.2 ⟨j, hoj, e1⟩]; exact eh', bd⟩
  · by_cases hpi : p.1 = i
    · exact ⟨v, d, by rw [hpi]; exact hs, by rw [hpi, List.getElem?_set_self hl], by rw [if_pos hpi]; exact t⟩
    · obtain ⟨v', d', e1, e2, q⟩ := tr.tree p hp
      exact ⟨v', d', e1, by rw [List.getElem?_set_ne fun z => hpi z.symm]; exact e2, by rw [if_neg hpi]; exact q.mono (Same.refl _) (keep p hp hpi)⟩
  · by_cases hpi : p.1 = i
    · rw [if_pos hpi] at ha
      refine ⟨?_, .inr ha, ?_⟩
      · rcases hA a ha with z | z
        · exact (priv a z).1
        · exact z.1
      · rcases hA a ha with z | z
        · exact (priv a z).2.2
        · exact fun w => z.2 (r.own a w)
    · rw [if_neg hpi] at ha
      obtain ⟨q1, q2, q3⟩ := tr.priv p hp a ha
      exact ⟨q1, .inl q2, q3⟩
  · have out : ∀ p ∈ ms, p.1 ≠ i → ∀ a ∈ A p.1, a ∉ A2 := fun p hp hne a ha z => by
      rcases hA a z with w | w
      · exact tr.apart p hp p0 hp0 (by rw [e0]; exact hne) a ha (by rw [e0]; exact w)
      · exact w.2 (tr.priv p hp a ha).2.1
    by_cases hpi : p.1 = i
    · by_cases hqi : q.1 = i
      · exact hpq (hpi.trans hqi.symm)
      · rw [if_pos hpi] at ha
        rw [if_neg hqi] at hqa
        exact out q hq hqi a hqa ha
    · rw [if_neg hpi] at ha
      by_cases hqi : q.1 = i
      · rw [if_pos hqi] at hqa
        exact out p hp hpi a ha hqa
      · rw [if_neg hqi] at hqa
        exact tr.apart p hp q hq hpq a ha hqa
  · by_cases hpi : p.1 = i
    · rw [if_pos hpi]
      exact hn (by
        have : p = (i, true) := Prod.ext hpi hb
        rw [← this]; exact hp)
    · rw [if_neg hpi]; exact tr.once p hp hb
  · cases z : H a with
    | none => rfl
    | some o => exact (there a (by rw [z]; exact fun y => nomatch y) e).elim
end
section
variable {X : Cx} {W : WX} {L : Lc} {rk : Option Bool} {os os1 os2 osN : Os} {ms ms1 ms2 msN : Ms} {e ie : Expr} {es : List Expr} {f fi : Rho → Out (D × Rho)} {g h : Rho → Out Fl} {pos p px py pz apos cpos spos : Pos} {nd : Bool} {st : Stmt} {sts : List Stmt}
theorem tree_lst {K : PySem.W.Frag} {S H : Hp} {A : List Addr} {v : V} {ds : List D} (t : Tr K S H A v (.lst ds)) : ∃ a B vs, v = .ref a ∧ A = a :: B ∧ H a = some (.lst vs) ∧ a ∉ B ∧ ds.length ≤ sizeLine ∧ TrL K S H B vs ds := by
  cases t with
  | leaf _ h => cases h
  | lst h n z r => exact ⟨_, _, _, rfl, rfl, h, n, z, r⟩
/-- x.append(e): e a new tree -/
def tApp (us hs : List Nat) (i : Nat) (f : Rho → Out (D × Rho)) : Rho → Out Fl := fun ρ => match ρ.getD i none with
  | some (.lst ds) => (f (wipeR ρ hs)).bind fun p => if (okUs us p.2 && decide (ds.length < sizeLine)) = true then .ok (.nx ((putU us p.2 ρ).set i (some (.lst (ds ++ [p.1]))))) else .stuck
  | _ => .stuck
/-- x.clear() -/
def tClear (i : Nat) : Rho → Out Fl := fun ρ => match ρ.getD i none with
  | some (.lst _) => .ok (.nx (ρ.set i (some (.lst []))))
  | _ => .stuck
end
end SW

set_option maxRecDepth 100000
/-! SW69: the lists in a tree cleared: for z in x: z.clear(), x[c].clear(); a tree made anew of itself and an owned list. -/
namespace SW
open PySem PySem.Spec PyProof.Rows L2
section
variable {K : PySem.W.Frag} {S H H2 : Hp} {P : Addr → Prop} {os : Os} {ms : Ms} {σ σ' : Sg} {ρ : Rho} {A : Nat → List Addr} {i : Nat}
def isLst : D → Bool
  | .lst _ => true
  | _ => false
/-- one slot is stored and forgotten -/
theorem RelT.forget (r : RelT K S H P os ms σ ρ) (z : Nat) (hch : ChOn [z] σ σ') (ho : os.getD z false = false) (hm : z ∉ ms.ix) : RelT K S H P os ms σ' (ρ.set z none) := by
  obtain ⟨A, tr⟩ := r.trees
  have hne : ∀ {j}, j ≠ z → σ'[j]? = σ[j]? := fun {j} h => hch.2 j fun q => h (List.mem_singleton.mp q)
  have hzo : ∀ {j}, os.getD j false = true → j ≠ z := fun {j} h q => by rw [q, ho] at h; cases h
  have ownσ : ∀ a, Own os σ' a → Own os σ a := fun a ⟨j, b1, b2⟩ => ⟨j, b1, by rw [← hne (hzo b1)]; exact b2⟩
  refine ⟨⟨r.rel.sub, by rw [wipeR_len, List.length_set, hch.1]; exact r.len, fun j x y e1 e2 => ?_, fun j k a h1 h2 e1 e2 => r.rel.sep j k a h1 h2 (by rw [← hne (hzo h1)]; exact e1) (by rw [← hne (hzo h2)]; exact e2)⟩, r.om, fun a q => r.own a (ownσ a q), A, ⟨fun p hp => ?_, fun p hp a ha => ⟨(tr.priv p hp a ha).1, (tr.priv p hp a ha).2.1, fun q => (tr.priv p hp a ha).2.2 (ownσ a q)⟩, tr.apart, tr.once⟩⟩
  · have hl : j < ρ.length := by
      have := (List.getElem?_eq_some_iff.mp e2).1
      rwa [wipeR_len, List.length_set] at this
    by_cases hj : j = z
    · subst hj
      rw [wipeR_out hm, List.getElem?_set_self hl] at e2
      cases e2
      rw [ho]
      cases x <;> trivial
    · rw [hne hj] at e1
      by_cases hjm : j ∈ ms.ix
      · rw [wipeR_in hjm (by rw [List.length_set]; exact hl)] at e2
        cases e2
        rw [r.om j hjm]
        cases x <;> trivial
      · rw [wipeR_out hjm, List.getElem?_set_ne fun q => hj q.symm] at e2
        exact r.rel.slot j x y e1 (by rw [wipeR_out hjm]; exact e2)
  · obtain ⟨v, d, e1, e2, t⟩ := tr.tree p hp
    have hpz : p.1 ≠ z := fun q => hm (q ▸ List.mem_map.mpr ⟨p, hp, rfl⟩)
    exact ⟨v, d, by rw [hne hpz]; exact e1, by rw [List.getElem?_set_ne fun q => hpz q.symm]; exact e2, t⟩
/-- the lists in a list -/
theorem TrL.rows : ∀ {B : List Addr} {vs : List V} {ds : List D}, TrL K S H B vs ds → ds.all isLst = true → ∃ bs : List Addr, vs = bs.map V.ref ∧ bs.Sublist B ∧ bs.length = ds.length ∧ ∀ b ∈ bs, ∃ ws, H b = some (.lst ws)
  | _, _, _, .nil, _ => ⟨[], rfl, List.Sublist.refl _, rfl, fun _ h => nomatch h⟩
  | _, _, _, .cons q r, h => by
    rw [List.all_cons, Bool.and_eq_true] at h
    obtain ⟨bs, e1, e2, e3, e4⟩ := TrL.rows r h.2
    cases q with
    | leaf _ t =>
      rename_i d _ _
      cases d <;> first | (cases h.1; done) | cases t
    | tup _ _ _ => cases h.1
    | @lst a vs' ds' A' hh n z rl =>
      refine ⟨a :: bs, by rw [e1]; rfl, ?_, by rw [List.length_cons, List.length_cons, e3], fun b hb => ?_⟩
      · exact List.Sublist.cons₂ a (List.Sublist.trans e2 (List.sublist_append_right _ _))
      · rcases List.mem_cons.mp hb with rfl | hb
        · exact ⟨_, hh⟩
        · exact e4 b hb
theorem TrL.emptied : ∀ {bs : List Addr}, (∀ b ∈ bs, H b = some (.lst [])) → TrL K S H bs (bs.map V.ref) (bs.map fun _ => D.lst [])
  | [], _ => .nil
  | b :: bs, h => by
    have := TrL.cons (A := [b]) (.lst (h b (List.mem_cons_self ..)) (fun z => nomatch z) (Nat.zero_le _) (TrL.nil (K := K) (S := S))) (TrL.emptied fun c hc => h c (List.mem_cons_of_mem _ hc))
    exact this
end
section
variable {X : Cx} {W : WX} {L : Lc} {rk : Option Bool} {os os1 os2 osN : Os} {ms ms1 ms2 msN : Ms} {e ie : Expr} {es : List Expr} {f fi : Rho → Out (D × Rho)} {g h : Rho → Out Fl} {pos p px pz pz2 apos cpos epos spos kpos : Pos} {nd : Bool} {st : Stmt} {sts : List Stmt}
def tForClear (i z : Nat) : Rho → Out Fl := fun ρ => match ρ.getD i none with
  | some (.lst ds) => if (ds.all isLst && decide (z < ρ.length)) = true then .ok (.nx ((ρ.set i (some (.lst (ds.map fun _ => .lst [])))).set z none)) else .stuck
  | _ => .stuck
end
/-! ### a place in a tree -/
section
variable {K : PySem.W.Frag} {S H : Hp}
theorem TrL.place : ∀ {B : List Addr} {vs : List V} {ds : List D} {k : Nat} {d : D}, TrL K S H B vs ds → ds[k]? = some d → ∃ B1 Bk B2 v, B = B1 ++ (Bk ++ B2) ∧ vs[k]? = some v ∧ Tr K S H Bk v d ∧
    ∀ {H2 : Hp} {Bk' : List Addr} {v' : V} {d' : D}, (∀ c ∈ B1 ++ B2, H2 c = H c) → Tr K S H2 Bk' v' d' → TrL K S H2 (B1 ++ (Bk' ++ B2)) (vs.set k v') (ds.set k d')
  | _, _, _, _, _, .nil, e => by simp at e
  | _, _, _, 0, _, .cons (A := A) (B := B) q r, e => by
    simp at e
    subst e
    exact ⟨[], A, B, _, rfl, rfl, q, fun {H2 Bk' v' d'} hk t => by
      show TrL K S H2 (Bk' ++ B) _ _
      exact .cons t (r.mono (Same.refl _) fun c hc => hk c hc)⟩
  | _, _, _, k + 1, _, .cons (A := A) (B := B) q r, e => by
    obtain ⟨B1, Bk, B2, v, e1, e2, e3, e4⟩ := TrL.place (k := k) r (by simpa using e)
    refine ⟨A ++ B1, Bk, B2, v, by rw [e1, List.append_assoc], by simpa using e2, e3, fun {H2 Bk' v' d'} hk t => ?_⟩
    rw [List.append_assoc]
    exact .cons (q.mono (Same.refl _) fun c hc => hk c (List.mem_append_left _ (List.mem_append_left _ hc))) (e4 (fun c hc => hk c (by
      rcases List.mem_append.mp hc with z | z
      · exact List.mem_append_left _ (List.mem_append_right _ z)
      · exact List.mem_append_right _ z)) t)
def itemsT : D → Option (List D)
  | .lst ds => some ds
  | .tup ds => some ds
  | _ => none
def likeT : D → List D → D
  | .lst _, ds => .lst ds
  | _, ds => .tup ds
theorem tokL_get : ∀ {ds : List D} {k : Nat} {d : D}, tokL ds = true → ds[k]? = some d → tokD d = true
  | [], _, _, _, h => by simp at h
  | x :: xs, 0, _, t, h => by
    unfold tokL at t
    rw [Bool.and_eq_true] at t
    simp at h
    rw [← h]; exact t.1
  | x :: xs, k + 1, _, t, h => by
    unfold tokL at t
    rw [Bool.and_eq_true] at t
    exact tokL_get (k := k) t.2 (by simpa using h)
theorem set_self {vs : List V} {k : Nat} {v : V} (e : vs[k]? = some v) : vs.set k v = vs := by
  refine List.ext_getElem? fun j => ?_
  by_cases hj : k = j
  · subst hj; rw [List.getElem?_set_self (List.getElem?_eq_some_iff.mp e).1, e]
  · rw [List.getElem?_set_ne hj]
/-- a list within a tree: it may be turned in its place -/
theorem Tr.place {A : List Addr} {v : V} {d : D} {ds : List D} {k : Nat} {dk : D} (t : Tr K S H A v d) (hi : itemsT d = some ds) (hd : ds[k]? = some dk) (hk : tokD dk = false) : ∃ p vs B1 Bk B2 vk, v = .ref p ∧ (SqT K S p vs ∨ H p = some (.lst vs)) ∧ vs.length = ds.length ∧ A = B1 ++ (Bk ++ B2) ∧ vs[k]? = some vk ∧ Tr K S H Bk vk dk ∧
    ∀ {H2 : Hp} {Bk' : List Addr} {d' : D}, (∀ c ∈ B1 ++ B2, H2 c = H c) → (∀ c ∈ Bk', c ∉ B1 ++ B2) → Tr K S H2 Bk' vk d' → Tr K S H2 (B1 ++ (Bk' ++ B2)) v (likeT d (ds.set k d')) := by
  cases t with
  | leaf _ h =>
    exfalso
    cases d with
    | tup es =>
      cases hi
      unfold tokD at h
      rw [tokL_get h hd] at hk; cases hk
    | lst es => cases h
    | _ => cases hi
  | @tup a vs es A' hs hz rl =>
    cases hi
    obtain ⟨B1, Bk, B2, vk, eB, ev, tk, back⟩ := rl.place hd
    refine ⟨a, vs, B1, Bk, B2, vk, rfl, .inl hs, rl.length, eB, ev, tk, fun {H2 Bk' d'} h1 h2 t2 => ?_⟩
    have t3 := back h1 t2
    rw [set_self ev] at t3
    exact .tup hs (by rw [List.length_set]; exact hz) t3
  | @lst a vs es A' hh na hz rl =>
    cases hi
    obtain ⟨B1, Bk, B2, vk, eB, ev, tk, back⟩ := rl.place hd
    refine ⟨a, vs, a :: B1, Bk, B2, vk, rfl, .inr hh, rl.length, by rw [eB]; rfl, ev, tk, fun {H2 Bk' d'} h1 h2 t2 => ?_⟩
    have t3 := back (fun c hc => h1 c (by
      rcases List.mem_append.mp hc with z | z
      · exact List.mem_append_left _ (List.mem_cons_of_mem _ z)
      · exact List.mem_append_right _ z)) t2
    rw [set_self ev] at t3
    refine .lst ((h1 a (List.mem_append_left _ (List.mem_cons_self ..))).trans hh) (fun z => ?_) (by rw [List.length_set]; exact hz) t3
    rcases List.mem_append.mp z with z | z
    · exact na (by rw [eB]; exact List.mem_append_left _ z)
    · rcases List.mem_append.mp z with z | z
      · exact h2 a z (List.mem_append_left _ (List.mem_cons_self ..))
      · exact na (by rw [eB]; exact List.mem_append_right _ (List.mem_append_right _ z))
end
section
variable {X : Cx} {W : WX} {L : Lc} {rk : Option Bool} {os os1 os2 osN : Os} {ms ms1 ms2 msN : Ms} {pos px apos cpos epos spos kpos : Pos} {kj : Nat}
def lstAt (ds : List D) (k : Nat) : Bool := match ds[k]? with
  | some (.lst _) => true
  | _ => false
def tClearIx (i : Nat) (c : Int) : Rho → Out Fl := fun ρ => match ρ.getD i none with
  | some d => (match itemsT d with
    | some ds => (match ixN ds.length c with
      | some k => if lstAt ds k = true then .ok (.nx (ρ.set i (some (likeT d (ds.set k (.lst [])))))) else .stuck
      | none => .stuck)
    | none => .stuck)
  | none => .stuck
end
end SW

set_option maxRecDepth 100000
/-! SW70: x = f(x, y): a tree of rows made anew of itself and of an owned list, none else in sight. -/
namespace SW
open PySem PySem.Spec PyProof.Rows L2
section
variable {K : PySem.W.Frag} {S H : Hp}
end
def rowTok : D → Bool
  | .lst es => tokL es
  | _ => false
section
variable {K : PySem.W.Frag} {S H : Hp} {P : Addr → Prop} {os : Os} {ms : Ms} {σ : Sg} {ρ : Rho} {A : Nat → List Addr} {i j : Nat}
end
section
variable {X : Cx} {W : WX} {L : Lc} {rk : Option Bool} {os os1 os2 osN : Os} {ms ms1 ms2 msN : Ms} {e : Expr} {f : Rho → Out (D × Rho)} {pos p : Pos}
def okHs (n : Nat) (hs : List Nat) (i j : Nat) : Bool := (List.range n).all fun k => hs.contains k || k == i || k == j
def ownAtTok (ρ : Rho) (j : Nat) : Bool := match ρ.getD j none with
  | some d => ownTok d
  | none => false
def tRecall (hs : List Nat) (i j : Nat) (f : Rho → Out (D × Rho)) : Rho → Out Fl := fun ρ => if (okHs ρ.length hs i j && ownAtTok ρ j) = true then (f (wipeR ρ hs)).bind fun p => (match p.1 with
  | .lst ds => if ds.all rowTok = true then .ok (.nx (((ρ.set i none).set j none).set i (some (.lst ds)))) else .stuck
  | _ => .stuck) else .stuck
end
end SW

set_option maxRecDepth 100000
/-! SW71: values under looks, one behind the other (TE); x[e] = a tree, x[e1][e2] = a value, for x that holds a tree; owned names and parts of trees told; methods that tell trees. -/
namespace SW
open PySem PySem.Spec PyProof.Rows L2
def PostE (X : Cx) (W : WX) (S H : Hp) (P : Addr → Prop) (os : Os) (ms : Ms) (σ : Sg) (ρ : Rho) (R : RR D V) (Q : V → Hp → Prop) : Out (D × Rho) → Prop
  | .ok (d, ρ') => ∀ v S' H', Ext P S H S' H' → RelT X.K S' H' P os ms σ ρ' → Kept X.K S H S' H' P os ms σ σ ρ ρ' → R H S' H' v d → Q v H'
  | .exc c fs => ∀ S' H' cls dd, Ext P S H S' H' → ExcAt X.K X.mg S' c fs cls dd → W cls dd σ H'
  | .stuck => False
/-- tree: a new tree; else a value without lists -/
def RVX (K : PySem.W.Frag) : Option Bool → RR D V
  | none => fun _ S' _ v d => At K S' v d ∧ tokD d = true
  | some nd => RVT K nd
def TE (X : Cx) (W : WX) (os : Os) (ms : Ms) (e : Expr) (f : Rho → Out (D × Rho)) (tr : Option Bool) : Prop :=
  ∃ t, PE X e t ∧ ∀ S σ H P ρ Q, (∀ a, P a → H a ≠ none) → RelT X.K S H P os ms σ ρ → PostE X W S H P os ms σ ρ (RVX X.K tr) Q (f ρ) → t σ H Q
section
variable {X : Cx} {W : WX} {L : Lc} {rk : Option Bool} {os os1 os2 osN : Os} {ms ms1 ms2 msN : Ms} {e e1 e2 ie ie1 ie2 : Expr} {es : List Expr} {f f1 f2 fi : Rho → Out (D × Rho)} {g h : Rho → Out Fl} {pos p px ps ps2 : Pos} {nd : Bool} {st : Stmt} {sts : List Stmt}
/-- the chain of a statement's values -/
theorem PostE.run {tr : Option Bool} {S H : Hp} {P : Addr → Prop} {σ : Sg} {ρ : Rho} {Q : V → Hp → Prop} {x : Out (D × Rho)} (he : ∀ c fs, x = .exc c fs → ∀ S' H' cls dd, Ext P S H S' H' → ExcAt X.K X.mg S' c fs cls dd → W cls dd σ H') (hst : x ≠ .stuck)
    (k : ∀ d ρ1, x = .ok (d, ρ1) → ∀ v S' H', Ext P S H S' H' → RelT X.K S' H' P os ms σ ρ1 → Kept X.K S H S' H' P os ms σ σ ρ ρ1 → RVX X.K tr H S' H' v d → Q v H') : PostE X W S H P os ms σ ρ (RVX X.K tr) Q x := by
  cases x with
  | ok z => exact k z.1 z.2 rfl
  | exc c fs => exact he c fs rfl
  | stuck => exact (hst rfl).elim
end
end SW

set_option maxRecDepth 100000
/-! SW72: owned names and parts of trees told; methods that tell trees. -/
namespace SW
open PySem PySem.Spec PyProof.Rows L2
section
variable {X : Cx} {W : WX} {L : Lc} {rk : Option Bool} {os os1 os2 osN : Os} {ms ms1 ms2 msN : Ms} {pos p px py pt px2 : Pos} {nd : Bool}
end
section
variable {X : Cx} {W : WX} {os os1 os2 : Os} {o : Expr} {fo : Rho → Out (D × Rho)} {pos apos : Pos} {c m : Str} {C fa : Addr} {fd : FuncData} {ps : List Str} {kk : Nat} {nd : Bool}
end
end SW

set_option maxRecDepth 100000
/-! SW76: the lists in two lists cleared: for z in x + y: z.clear(). -/
namespace SW
open PySem PySem.Spec PyProof.Rows L2
section
variable {K : PySem.W.Frag} {S H H2 : Hp} {P : Addr → Prop} {os : Os} {ms : Ms} {σ σ' : Sg} {ρ : Rho} {i : Nat}
theorem refs_inj : ∀ {a b : List Addr}, a.map V.ref = b.map V.ref → a = b
  | [], [], _ => rfl
  | [], _ :: _, h => nomatch h
  | _ :: _, [], h => nomatch h
  | x :: a, y :: b, h => by
    rw [List.map_cons, List.map_cons] at h
    injection h with h1 h2
    injection h1 with h1
    rw [h1, refs_inj h2]
theorem RelT.rows (r : RelT K S H P os ms σ ρ) (him : i ∈ ms.ix) {ds : List D} (eg : ρ.getD i none = some (.lst ds)) (hl : ds.all isLst = true) : ∃ (a : Addr) (bs : List Addr), σ[i]? = some (some (.ref a)) ∧ H a = some (.lst (bs.map V.ref)) ∧ a ∉ bs ∧ bs.length = ds.length ∧ (∀ b ∈ bs, ∃ ws, H b = some (.lst ws)) ∧
    ∀ H2 : Hp, (∀ c, H2 c = if c ∈ bs then some (.lst []) else H c) → RelT K S H2 P os ms σ (ρ.set i (some (.lst (ds.map fun _ => .lst [])))) ∧ Ext P S H S H2 := by
  obtain ⟨p0, hp0, e0⟩ := List.mem_map.mp him
  obtain ⟨A, tr⟩ := r.trees
  obtain ⟨v0, d0, ev0, ed0, t0⟩ := tr.tree p0 hp0
  rw [e0] at ev0 ed0 t0
  have eg2 : ρ.getD i none = some d0 := by simp [List.getD, ed0]
  rw [eg] at eg2
  cases eg2
  obtain ⟨a, B, vs, rfl, eA, eh, na, hz, rl⟩ := tree_lst t0
  obtain ⟨bs, evs, hsub, hlen, hcell⟩ := rl.rows hl
  subst evs
  have hab : a ∉ bs := fun q => na (hsub.subset q)
  refine ⟨a, bs, ev0, eh, hab, hlen, hcell, fun H' hH => ?_⟩
  have hca : a ∈ A i := by rw [eA]; exact List.mem_cons_self ..
  have hcb : ∀ b ∈ bs, b ∈ A i := fun b hb => by rw [eA]; exact List.mem_cons_of_mem _ (hsub.subset hb)
  have eha : H' a = some (.lst (bs.map V.ref)) := by rw [hH, if_neg hab]; exact eh
  have em : (ds.map fun _ => D.lst []) = bs.map fun _ => D.lst [] := by
    rw [List.map_const', List.map_const', hlen]
  have ht := r.turn tr him (H2 := H') (A2 := a :: bs) (d := .lst (ds.map fun _ => .lst [])) (.lst eha hab (by rw [List.length_map]; exact hz) (by rw [em]; exact TrL.emptied fun b hb => by rw [hH, if_pos hb])) ev0 (fun c hc2 => by rw [hH, if_neg fun q => hc2 (hcb c q)]) (fun c hc2 => by
      rw [hH]
      split
      · exact fun q => nomatch q
      · exact hc2) (fun c hc2 => .inl (by
      rcases List.mem_cons.mp hc2 with rfl | q
      · exact hca
      · exact hcb c q)) (fun hit => by
      have := tr.once _ hit rfl
      rw [show A (i, true).1 = A i from rfl, eA] at this
      obtain ⟨n1, n2⟩ := List.nodup_cons.mp this
      exact List.nodup_cons.mpr ⟨hab, n2.sublist hsub⟩)
  refine ⟨ht.1.weak fun c q => ?_, ht.2⟩
  rcases q with q | q
  · exact q
  · rcases List.mem_cons.mp q with rfl | q
    · exact (tr.priv p0 hp0 c (by rw [e0]; exact hca)).2.1
    · exact (tr.priv p0 hp0 c (by rw [e0]; exact hcb c q)).2.1
end
section
variable {X : Cx} {W : WX} {L : Lc} {rk : Option Bool} {os os1 os2 osN : Os} {ms ms1 ms2 msN : Ms} {pos p px px1 px2 ppos pz pz2 apos cpos epos spos kpos : Pos}
def tForClear2 (i1 i2 z : Nat) : Rho → Out Fl := fun ρ => match ρ.getD i1 none, ρ.getD i2 none with
  | some (.lst ds), some (.lst es) => if (ds.all isLst && es.all isLst && decide (z < ρ.length) && decide (ds.length + es.length ≤ sizeLine)) = true then .ok (.nx (((ρ.set i1 (some (.lst (ds.map fun _ => .lst [])))).set i2 (some (.lst (es.map fun _ => .lst [])))).set z none)) else .stuck
  | _, _ => .stuck
/-- for z in x + y: z.clear() -/
theorem ts_forClear2 (i1 i2 z : Nat) {x1 x2 y : Str} (hp : PassesOwn (model X.prog X.w) X.A X.env X.xe) (hND : X.N.Nodup) (hin1 : ms.ix.contains i1 = true := by rfl) (hin2 : ms.ix.contains i2 = true := by rfl) (hne : (i1 == i2) = false := by rfl) (hzm : ms.ix.contains z = false := by rfl) (hzo : os.getD z false = false := by rfl) (hfz : L.fx.getD z false = false := by rfl)
    (hN1 : X.N[i1]? = some x1 := by rfl) (hN2 : X.N[i2]? = some x2 := by rfl) (hNz : X.N[z]? = some y := by rfl)
    (hvis1 : Vis X.env.scope x1 := by first | exact Or.inl rfl | exact Or.inr (Or.inl rfl) | exact Or.inr (Or.inr rfl)) (hd1 : (x1 == ("__debug__" : Str)) = false := by decide) (hcd1 : (x1 == ("__classdict__" : Str)) = false := by decide)
    (hvis2 : Vis X.env.scope x2 := by first | exact Or.inl rfl | exact Or.inr (Or.inl rfl) | exact Or.inr (Or.inr rfl)) (hd2 : (x2 == ("__debug__" : Str)) = false := by decide) (hcd2 : (x2 == ("__classdict__" : Str)) = false := by decide)
    (hvz : Vis X.env.scope y := by first | exact Or.inl rfl | exact Or.inr (Or.inl rfl) | exact Or.inr (Or.inr rfl)) (hdz : (y == ("__debug__" : Str)) = false := by decide) (hcdz : (y == ("__classdict__" : Str)) = false := by decide)
    (hzl : Loc X.env.scope y := by first | exact Or.inl rfl | exact Or.inr rfl) (hf : X.fn y = true ∨ X.env.scope.names.lookup y = some .local := by first | exact .inl rfl | exact .inr rfl | assumption)
    (hbase : attributeBase (.Name y pz2) "clear" X.env (eval (.Name y pz2) X.env) = eval (.Name y pz2) X.env := by rfl) (hline : (apos.endLine == cpos.line) = true := by rfl)
    (hsw : swapsWith (.Call (.Attribute (.Name y pz2) "clear" apos) [] [] cpos) none epos.line X.env = pure false := by rfl) (hc : X.calm = true := by rfl) (hs : ∀ u, foldedSetIterable (.BinOp (.Name x1 px1) .Add (.Name x2 px2) ppos) X.env u = pure u := by intro _; rfl) :
    TS X W L rk os ms (.For (.Name y pz) (.BinOp (.Name x1 px1) .Add (.Name x2 px2) ppos) [.Expr (.Call (.Attribute (.Name y pz2) "clear" apos) [] [] cpos) epos] [] pos) (tForClear2 i1 i2 z) os ms := by
  refine ⟨_, ps_for hp hc (pi_list (pe_op op_cat (pe_var hN1 hvis1 hd1 hcd1) (pe_var hN2 hvis2 hd2 hcd2))) (pg_name hND hNz hzl hf) (pss_one (ps_expr (pe_bm0 PySem.F.plainAttrs_list PySem.F.slot_list_clear PySem.F.type_list_clear mt_clear (pe_var hNz hvz hdz hcdz) hbase hline) hsw)) hs, fun S σ H P ρ Ds r p => ?_⟩
  have him1 : i1 ∈ ms.ix := by simpa using hin1
  have him2 : i2 ∈ ms.ix := by simpa using hin2
  have hne : i1 ≠ i2 := fun q => by rw [q] at hne; simp at hne
  have hzi : z ∉ ms.ix := fun q => by
    have : ms.ix.contains z = true := by simpa using q
    rw [hzm] at this; cases this
  unfold tForClear2 at p
  split at p
  case h_2 => exact p.elim
  rename_i ds es g1 g2
  split at p
  case isFalse => exact p.elim
  rename_i hok
  rw [Bool.and_eq_true, Bool.and_eq_true, Bool.and_eq_true, decide_eq_true_eq, decide_eq_true_eq] at hok
  obtain ⟨⟨⟨l1, l2⟩, hzl⟩, hsz⟩ := hok
  obtain ⟨a1, bs1, ev1, eh1, na1, hn1, hc1, back1⟩ := r.rows him1 g1 l1
  obtain ⟨a2, bs2, ev2, eh2, na2, hn2, hc2, back2⟩ := r.rows him2 g2 l2
  refine ⟨.ref a1, ev1, .ref a2, ev2, a1, a2, bs1.map V.ref, bs2.map V.ref, rfl, rfl, eh1, eh2, by rw [List.length_map, List.length_map, hn1, hn2]; exact hsz, fun q nq => ⟨q, rfl, ⟨_, .inl (.of upd_same)⟩, ?_⟩⟩
  rw [← List.map_append]
  have hcell : ∀ b ∈ bs1 ++ bs2, ∃ ws, H b = some (.lst ws) := fun b hb => (List.mem_append.mp hb).elim (hc1 b) (hc2 b)
  have hqb : q ∉ bs1 ++ bs2 := fun w => by
    obtain ⟨ws, ew⟩ := hcell q w
    rw [nq] at ew; cases ew
  have xx : Ext (fun _ => False) S H S (upd H q (.lst ((bs1 ++ bs2).map V.ref))) := Ext.newO r.rel.sub nq
  have r1 := r.ext0 xx
  generalize eH0 : upd H q (.lst ((bs1 ++ bs2).map V.ref)) = H0 at *
  have hq0 : H0 q = some (.lst ((bs1 ++ bs2).map V.ref)) := by rw [← eH0]; exact upd_same
  have hk0 : ∀ c, H c ≠ none → H0 c = H c := fun c h => by
    rw [← eH0]
    exact upd_ne fun w => h (by rw [w]; exact nq)
  refine ⟨fun k m σ' H' => k + m = (bs1 ++ bs2).length ∧ ChOn [z] σ σ' ∧ ∀ c, H' c = if c ∈ (bs1 ++ bs2).take k then some (.lst []) else H0 c, ⟨(bs1 ++ bs2).length, by omega, ⟨rfl, fun _ _ => rfl⟩, fun c => by rw [List.take_zero, if_neg (fun q => nomatch q)]⟩, ?_⟩
  rintro k m σ' H' ⟨hm, hch, hH⟩
  have eha : H' q = some (.lst ((bs1 ++ bs2).map V.ref)) := by rw [hH, if_neg fun w => hqb ((List.take_sublist ..).subset w)]; exact hq0
  by_cases hk : k < (bs1 ++ bs2).length
  · have ek : (bs1 ++ bs2)[k]? = some (bs1 ++ bs2)[k] := List.getElem?_eq_getElem hk
    refine .inr ⟨⟨_, .ref (bs1 ++ bs2)[k], .inl (.of eha), by rw [List.getElem?_map, ek]; rfl⟩, fun σ'' H'' => ChOn [z] σ σ'' ∧ ∀ c, H'' c = if c ∈ (bs1 ++ bs2).take (k + 1) then some (.lst []) else H0 c, fun σ'' H'' w => ⟨m - 1, by omega, by omega, w⟩, ?_⟩
    rintro y' H3 ⟨rfl, hy⟩
    have ey := hy _ (.inl (.of eha))
    rw [List.getElem?_map, ek] at ey
    cases ey
    have hzl2 : z < σ'.length := by rw [hch.1, r.len]; exact hzl
    have hcellk : ∃ ws, H3 (bs1 ++ bs2)[k] = some (.lst ws) := by
      rw [hH]
      by_cases w : (bs1 ++ bs2)[k] ∈ (bs1 ++ bs2).take k
      · exact ⟨[], by rw [if_pos w]⟩
      · rw [if_neg w]
        obtain ⟨ws, ew⟩ := hcell _ (List.getElem_mem hk)
        exact ⟨ws, by rw [hk0 _ (by rw [ew]; exact fun z => nomatch z)]; exact ew⟩
    obtain ⟨ws, ews⟩ := hcellk
    refine ⟨.ref (bs1 ++ bs2)[k], by rw [List.getElem?_set_self hzl2], .inl ⟨rfl, ws, .inl (.of ews)⟩, (bs1 ++ bs2)[k], ws, rfl, rfl, ews, ⟨by rw [List.length_set]; exact hch.1, fun j hj => ?_⟩, fun c => ?_⟩
    · rw [List.getElem?_set_ne fun w => hj (by rw [← w]; exact List.mem_singleton.mpr rfl)]; exact hch.2 j hj
    · rw [List.take_succ, ek, Option.toList_some]
      by_cases w : c = (bs1 ++ bs2)[k]
      · rw [w, upd_same, if_pos (List.mem_append_right _ (List.mem_singleton.mpr rfl))]
      · rw [upd_ne w, hH]
        have : c ∈ (bs1 ++ bs2).take k ++ [(bs1 ++ bs2)[k]] ↔ c ∈ (bs1 ++ bs2).take k := ⟨fun u => (List.mem_append.mp u).resolve_right fun u => w (List.mem_singleton.mp u), fun u => List.mem_append_left _ u⟩
        by_cases u : c ∈ (bs1 ++ bs2).take k
        · rw [if_pos u, if_pos (this.mpr u)]
        · rw [if_neg u, if_neg fun v => u (this.mp v)]
  · refine .inl ⟨⟨_, .inl (.of eha), by rw [List.length_map]; omega⟩, ?_⟩
    have hH : ∀ c, H' c = if c ∈ bs1 ++ bs2 then some (.lst []) else H0 c := fun c => by rw [hH, List.take_of_length_le (by omega)]
    obtain ⟨a1', bs1', ev1', eh1', _, hn1', _, back1'⟩ := r1.rows him1 g1 l1
    rw [ev1] at ev1'
    cases ev1'
    rw [hk0 a1 (by rw [eh1]; exact fun z => nomatch z), eh1] at eh1'
    have eb1 : bs1 = bs1' := by
      injection eh1' with e
      injection e with e
      exact refs_inj e
    subst eb1
    obtain ⟨H1, hH1⟩ : ∃ H1 : Hp, ∀ c, H1 c = if c ∈ bs1 then some (.lst []) else H0 c := ⟨_, fun _ => rfl⟩
    obtain ⟨r2, x2⟩ := back1' H1 hH1
    have g2' : (ρ.set i1 (some (.lst (ds.map fun _ => .lst [])))).getD i2 none = some (.lst es) := by
      rw [List.getD, List.getElem?_set_ne hne]
      exact g2
    obtain ⟨a2', bs2', ev2', eh2', _, hn2', _, back2'⟩ := r2.rows him2 g2' l2
    rw [ev2] at ev2'
    cases ev2'
    have eb2 : bs2 = bs2' := by
      rw [hH1] at eh2'
      split at eh2'
      · injection eh2' with e
        injection e with e
        have : bs2' = [] := List.map_eq_nil_iff.mp e.symm
        subst this
        rw [← hn2'] at hn2
        exact List.length_eq_zero_iff.mp hn2
      · rw [hk0 a2 (by rw [eh2]; exact fun z => nomatch z), eh2] at eh2'
        injection eh2' with e
        injection e with e
        exact refs_inj e
    subst eb2
    obtain ⟨r3, x3⟩ := back2' H' fun c => by
      rw [hH, hH1]
      by_cases w : c ∈ bs2
      · rw [if_pos w, if_pos (List.mem_append_right _ w)]
      · rw [if_neg w]
        by_cases u : c ∈ bs1
        · rw [if_pos u, if_pos (List.mem_append_left _ u)]
        · rw [if_neg u, if_neg fun v => (List.mem_append.mp v).elim u w]
    exact p σ' S H' P ((xx.weak (O' := P) fun _ w => w.elim).trans (x2.trans x3 fun _ w => .inl w) fun _ w => .inl w) (fun c w => .inl w) ⟨hch.1, fun j hj => hch.2 j fun w => by rw [List.mem_singleton.mp w, hfz] at hj; cases hj⟩ (r3.forget z hch hzo hzi)
end
end SW

set_option maxRecDepth 100000
set_option maxHeartbeats 0
namespace Lw
open PySem PySem.Spec PyProof.Rows L2 SW
def k_MOST : D := .int 5

def k_MOST_LETTERS : D := .int 4

def k_NOUGHT : D := .tup [.int 0, .int 1]

def k_ONE : D := .tup [.int 1, .int 1]

abbrev nn__law_mixed : List Str := ["_law_cell", "_law_k", "_law_number_here"]
def b__law_mixed : Rho → Out Fl := (sSeq (sSet 2 (eOp2 addD (eOp2 addD (eOp2 repD (eOp2 addD (eOp2 modD (eVar 0) (eOp2 addD (eOp2 powD (eCon (.int 10)) (eCon (.int 18))) (eCon (.int 9)))) (eOp2 repD (eCon (.int 7)) (eVar 1))) (eCon (.int 739108512309184756019283746561))) (eOp2 repD (eCon (.int 7919)) (eVar 1))) (eCon (.int 1)))) (sSeq (sSet 2 (eOp2 modD (eOp2 repD (eVar 2) (eVar 2)) (eOp2 addD (eOp2 powD (eCon (.int 10)) (eCon (.int 60))) (eCon (.int 7))))) (sRet (eOp2 modD (eOp2 repD (eOp2 addD (eVar 2) (eCon (.int 40503))) (eOp2 addD (eVar 2) (eCon (.int 57)))) (eOp2 addD (eOp2 powD (eCon (.int 10)) (eCon (.int 60))) (eCon (.int 7)))))))
def m__law_mixed : List D → Out (D × D) := runF 3 none b__law_mixed

abbrev nn__law_purse : List Str := ["_law_cell", "_law_k"]
def b__law_purse : Rho → Out Fl := (sSeq (sIf (tVal (eOp2 geA (eVar 0) (eOp2 powD (eCon (.int 10)) (eCon (.int 18))))) (sRet (eLst (aCons (eOp2 subD (eVar 0) (eOp2 powD (eCon (.int 10)) (eCon (.int 18)))) (aCons (eCon (.int 0)) (aCons (eVar 1) aNil))))) sSkip) (sRet (eLst (aCons (eCall m__law_mixed (aCons (eVar 0) (aCons (eVar 1) aNil))) (aCons (eCon (.int 0)) (aCons (eOp2 addD (eOp2 modD (eVar 0) (eOp2 addD (eOp2 powD (eCon (.int 10)) (eCon (.int 18))) (eCon (.int 9)))) (eVar 1)) aNil))))))
def m__law_purse : List D → Out (D × D) := runF 2 none b__law_purse

abbrev nn__law_rank : List Str := ["_law_word"]
def b__law_rank : Rho → Out Fl := (sRet (eTup (aCons (eArg lenA (aCons (eVar 0) aNil)) (aCons (eVar 0) aNil))))
def m__law_rank : List D → Out (D × D) := runF 1 none b__law_rank

abbrev nn__law_told : List Str := ["_law_found", "_law_word"]
def b__law_told : Rho → Out Fl := (sRet (eComp [1] (iSeqA (eSortK m__law_rank (eVar 0))) (gName 1) tYesF (eTup (aCons (eVar 1) (aCons (eOp2 ixA (eVar 0) (eVar 1)) aNil)))))
def m__law_told : List D → Out (D × D) := runF 2 none b__law_told

abbrev nn__law_take : List Str := ["_law_purse_here", "_law_many", "_law_got"]
def b__law_take : Rho → Out Fl := (sSeq (sIf (tPeek (tVal (eOp2 ltA (eOp2 ixA (eVar 0) (eCon (.int 0))) (eVar 1)))) (sSeq (sSetA 0 (eOp2 addD (eIxA 0 (eCon (.int 1))) (eCon (.int 1))) (eCon (.int 1))) (sSetA 0 (eOp2 addD (eIxA 0 (eCon (.int 0))) (eOp2 repD (eVar 1) (eCall m__law_mixed (aCons (eIxA 0 (eCon (.int 2))) (aCons (eOp2 addD (eOp2 repD (eCon (.int 11)) (eIxA 0 (eCon (.int 1)))) (eCon (.int 5))) aNil))))) (eCon (.int 0)))) sSkip) (sSeq (sSet 2 (eOp2 modD (eIxA 0 (eCon (.int 0))) (eVar 1))) (sSeq (sSetA 0 (eOp2 fdivD (eIxA 0 (eCon (.int 0))) (eVar 1)) (eCon (.int 0))) (sRet (eVar 2)))))
def m__law_take : List D → Out (D × D) := runF 3 (some 0) b__law_take

abbrev nn__law_low : List Str := ["_law_top", "_law_bottom", "_law_one", "_law_other"]
def b__law_low : Rho → Out Fl := (sSeq (sSet 2 (eArg absD (aCons (eVar 0) aNil))) (sSeq (sSet 3 (eVar 1)) (sSeq (sWhile (fuelInt 3) (tVal (eOp2 neD (eVar 3) (eCon (.int 0)))) (sPar 2 3 (aCons (eVar 3) (aCons (eOp2 modD (eVar 2) (eVar 3)) aNil)))) (sRet (eTup (aCons (eOp2 fdivD (eVar 0) (eVar 2)) (aCons (eOp2 fdivD (eVar 1) (eVar 2)) aNil)))))))
def m__law_low : List D → Out (D × D) := runF 4 none b__law_low

abbrev nn__law_number : List Str := ["_law_purse_here", "_law_way"]
def b__law_number : Rho → Out Fl := (sSeq (sSet 1 (eCallM m__law_take 0 0 (aHoleQ 0 (aCons (eCon (.int 5)) aNil)))) (sSeq (sIf (tVal (eOp2 ltA (eVar 1) (eCon (.int 3)))) (sRet (eOp2 ixA (eLst (aCons (eTup (aCons (eCon (.int 0)) (aCons (eCon (.int 1)) aNil))) (aCons (eTup (aCons (eCon (.int 1)) (aCons (eCon (.int 1)) aNil))) (aCons (eTup (aCons (eOp1 negD (eCon (.int 1))) (aCons (eCon (.int 1)) aNil))) aNil)))) (eVar 1))) sSkip) (sSeq (sIf (tVal (eOp2 eqD (eVar 1) (eCon (.int 3)))) (sRet (eTup (aCons (eOp2 subD (eCallM m__law_take 0 0 (aHoleQ 0 (aCons (eCon (.int 13)) aNil))) (eCon (.int 6))) (aCons (eCon (.int 1)) aNil)))) sSkip) (sRet (eCall m__law_low (aCons (eOp2 subD (eCallM m__law_take 0 0 (aHoleQ 0 (aCons (eOp2 addD (eOp2 repD (eCon (.int 2)) (eOp2 powD (eCon (.int 10)) (eCon (.int 3)))) (eCon (.int 1))) aNil))) (eOp2 powD (eCon (.int 10)) (eCon (.int 3)))) (aCons (eOp2 addD (eCon (.int 1)) (eCallM m__law_take 0 0 (aHoleQ 0 (aCons (eCon (.int 9)) aNil)))) aNil)))))))
def m__law_number : List D → Out (D × D) := runF 2 (some 0) b__law_number

abbrev nn__law_drawn : List Str := ["_law_purse_here", "_law_count", "_law_found", "_law_most", "_law_term", "_law_word", "_law_number_here", "_law_place"]
def b__law_drawn : Rho → Out Fl := (sSeq (sSet 2 eDNew) (sSeq (sSet 3 (eOp2 addD (eCon (.int 1)) (eCallM m__law_take 0 0 (aHoleQ 0 (aCons (eCon (.int 3)) aNil))))) (sSeq (sFor (iRange (aCons (eCallM m__law_take 0 0 (aHoleQ 0 (aCons (eCon (.int 3)) aNil))) aNil)) (gName 4) (sSeq (sSet 5 (eArg tupleD (aCons (eComp [7] (iRange (aCons (eOp2 addD (eCon (.int 1)) (eCallM m__law_take 0 0 (aHoleQ 0 (aCons (eVar 3) aNil)))) aNil)) (gName 7) tYesF (eCallM m__law_take 0 0 (aHoleQ 0 (aCons (eVar 1) aNil)))) aNil))) (sSeq (sSet 6 (eCallM m__law_number 0 0 (aHoleQ 0 aNil))) (sIf (tVal (eOp2 neD (eOp2 ixA (eVar 6) (eCon (.int 0))) (eCon (.int 0)))) (sSetA 2 (eVar 6) (eVar 5)) sSkip)))) (sRet (ePeekL (eCall m__law_told (aCons (eVar 2) aNil)))))))
def m__law_drawn : List D → Out (D × D) := runF 8 (some 0) b__law_drawn

abbrev nn__law_at : List Str := ["_law_script", "_law_k"]
def b__law_at : Rho → Out Fl := (sSeq (sIf (tVal (eOp2 ltA (eVar 1) (eArg lenA (aCons (eVar 0) aNil)))) (sRet (eOp2 ixA (eVar 0) (eVar 1))) sSkip) (sRet (eOp2 addD (eOp2 repD (eCon (.int 3)) (eVar 1)) (eCon (.int 1)))))
def m__law_at : List D → Out (D × D) := runF 2 none b__law_at

abbrev nn__law_plus : List Str := ["_law_one", "_law_other"]
def b__law_plus : Rho → Out Fl := (sRet (eCall m__law_low (aCons (eOp2 addD (eOp2 repD (eOp2 ixA (eVar 0) (eCon (.int 0))) (eOp2 ixA (eVar 1) (eCon (.int 1)))) (eOp2 repD (eOp2 ixA (eVar 1) (eCon (.int 0))) (eOp2 ixA (eVar 0) (eCon (.int 1))))) (aCons (eOp2 repD (eOp2 ixA (eVar 0) (eCon (.int 1))) (eOp2 ixA (eVar 1) (eCon (.int 1)))) aNil))))
def m__law_plus : List D → Out (D × D) := runF 2 none b__law_plus

abbrev nn__law_put : List Str := ["_law_found", "_law_word", "_law_number_here"]
def b__law_put : Rho → Out Fl := (sSeq (sSetA 0 (eCall m__law_plus (aCons (eDGetO 0 (eVar 1) (eTup (aCons (eCon (.int 0)) (aCons (eCon (.int 1)) aNil)))) (aCons (eVar 2) aNil))) (eVar 1)) (sIf (tPeek (tVal (eOp2 eqD (eOp2 ixA (eOp2 ixA (eVar 0) (eVar 1)) (eCon (.int 0))) (eCon (.int 0))))) (sExpr (eDPop 0 (eVar 1))) sSkip))
def m__law_put : List D → Out (D × D) := runF 3 (some 0) b__law_put

abbrev nn__law_by : List Str := ["_law_one", "_law_other"]
def b__law_by : Rho → Out Fl := (sRet (eCall m__law_low (aCons (eOp2 repD (eOp2 ixA (eVar 0) (eCon (.int 0))) (eOp2 ixA (eVar 1) (eCon (.int 0)))) (aCons (eOp2 repD (eOp2 ixA (eVar 0) (eCon (.int 1))) (eOp2 ixA (eVar 1) (eCon (.int 1)))) aNil))))
def m__law_by : List D → Out (D × D) := runF 2 none b__law_by

abbrev nn__law_joined : List Str := ["_law_one", "_law_other", "_law_found", "_law_word", "_law_number_here", "_law_more", "_law_much"]
def b__law_joined : Rho → Out Fl := (sSeq (sSet 2 eDNew) (sSeq (sFor (iSeqA (eVar 0)) (gTup 2 (gCons (gName 3) (gCons (gName 4) gNil))) (sFor (iSeqA (eVar 1)) (gTup 2 (gCons (gName 5) (gCons (gName 6) gNil))) (sIf (tVal (eOp2 ltA (eOp2 addD (eArg lenA (aCons (eVar 3) aNil)) (eArg lenA (aCons (eVar 5) aNil))) (eCon (.int 6)))) (sExpr (eCallM m__law_put 0 2 (aHoleQ 2 (aCons (eOp2 addD (eVar 3) (eVar 5)) (aCons (eCall m__law_by (aCons (eVar 4) (aCons (eVar 6) aNil))) aNil))))) sSkip))) (sRet (ePeekL (eCall m__law_told (aCons (eVar 2) aNil))))))
def m__law_joined : List D → Out (D × D) := runF 7 none b__law_joined

abbrev nn__law_powers : List Str := ["_law_total", "_law_shares", "_law_found", "_law_power", "_law_share", "_law_word", "_law_number_here"]
def b__law_powers : Rho → Out Fl := (sSeq (sSet 2 eDNew) (sSeq (sSet 3 (eLst (aCons (eTup (aCons (eTup aNil) (aCons (eTup (aCons (eCon (.int 1)) (aCons (eCon (.int 1)) aNil))) aNil))) aNil))) (sSeq (sFor (iSeqA (eVar 1)) (gName 4) (sSeq (sSet 3 (eCall m__law_joined (aCons (eVar 3) (aCons (eVar 0) aNil)))) (sFor (iSeqA (eVar 3)) (gTup 2 (gCons (gName 5) (gCons (gName 6) gNil))) (sExpr (eCallM m__law_put 0 2 (aHoleQ 2 (aCons (eVar 5) (aCons (eCall m__law_by (aCons (eVar 6) (aCons (eVar 4) aNil))) aNil)))))))) (sRet (eVar 2)))))
def m__law_powers : List D → Out (D × D) := runF 7 none b__law_powers

abbrev nn__law_grown : List Str := ["_law_total", "_law_found"]
def b__law_grown : Rho → Out Fl := (sSeq (sSet 1 (eCall m__law_powers (aCons (eVar 0) (aCons (eLst (aCons (eTup (aCons (eCon (.int 1)) (aCons (eCon (.int 1)) aNil))) (aCons (eTup (aCons (eCon (.int 1)) (aCons (eCon (.int 2)) aNil))) (aCons (eTup (aCons (eCon (.int 1)) (aCons (eCon (.int 6)) aNil))) (aCons (eTup (aCons (eCon (.int 1)) (aCons (eCon (.int 24)) aNil))) (aCons (eTup (aCons (eCon (.int 1)) (aCons (eCon (.int 120)) aNil))) aNil)))))) aNil)))) (sSeq (sExpr (eCallM m__law_put 0 1 (aHoleQ 1 (aCons (eTup aNil) (aCons (eTup (aCons (eCon (.int 1)) (aCons (eCon (.int 1)) aNil))) aNil))))) (sRet (ePeekL (eCall m__law_told (aCons (eVar 1) aNil))))))
def m__law_grown : List D → Out (D × D) := runF 2 none b__law_grown

abbrev nn__law_logged : List Str := ["_law_total", "_law_some", "_law_word", "_law_number_here"]
def b__law_logged : Rho → Out Fl := (sSeq (sSet 1 (eComp [2, 3] (iSeqA (eVar 0)) (gTup 2 (gCons (gName 2) (gCons (gName 3) gNil))) (tVal (eOp2 neD (eVar 2) (eTup aNil))) (eTup (aCons (eVar 2) (aCons (eVar 3) aNil))))) (sRet (eCall m__law_told (aCons (eCall m__law_powers (aCons (eVar 1) (aCons (eLst (aCons (eTup (aCons (eCon (.int 1)) (aCons (eCon (.int 1)) aNil))) (aCons (eTup (aCons (eOp1 negD (eCon (.int 1))) (aCons (eCon (.int 2)) aNil))) (aCons (eTup (aCons (eCon (.int 1)) (aCons (eCon (.int 3)) aNil))) (aCons (eTup (aCons (eOp1 negD (eCon (.int 1))) (aCons (eCon (.int 4)) aNil))) (aCons (eTup (aCons (eCon (.int 1)) (aCons (eCon (.int 5)) aNil))) aNil)))))) aNil))) aNil))))
def m__law_logged : List D → Out (D × D) := runF 4 none b__law_logged

abbrev nn_is_whole : List Str := ["one"]
def b_is_whole : Rho → Out Fl := (sRet (eAndF (eArg isiD (aCons (eVar 0) (aCons (eCon (.ty .int)) aNil))) (eNotF (eArg isiD (aCons (eVar 0) (aCons (eCon (.ty .bool)) aNil))))))
def m_is_whole : List D → Out (D × D) := runF 1 none b_is_whole

abbrev nn_check_count : List Str := ["count"]
def b_check_count : Rho → Out Fl := (sIf (tOrF (tNotF (tVal (eCall m_is_whole (aCons (eVar 0) aNil)))) (tOrF (tVal (eOp2 ltA (eVar 0) (eCon (.int 1)))) (tVal (eOp2 gtA (eVar 0) (eCon k_MOST_LETTERS))))) sStuck sSkip)
def m_check_count : List D → Out (D × D) := runF 1 none b_check_count

abbrev nn_is_word : List Str := ["word", "count", "way"]
def b_is_word : Rho → Out Fl := (sSeq (sIf (tOrF (tNotF (tVal (eArg isiD (aCons (eVar 0) (aCons (eCon (.ty .tuple)) aNil))))) (tVal (eOp2 gtA (eArg lenA (aCons (eVar 0) aNil)) (eCon k_MOST)))) (sRet (eCon (.bl false))) sSkip) (sSeq (sFor (iSeqA (eVar 0)) (gName 2) (sIf (tOrF (tNotF (tVal (eCall m_is_whole (aCons (eVar 2) aNil)))) (tOrF (tVal (eOp2 ltA (eVar 2) (eCon (.int 0)))) (tVal (eOp2 geA (eVar 2) (eVar 1))))) (sRet (eCon (.bl false))) sSkip)) (sRet (eCon (.bl true)))))
def m_is_word : List D → Out (D × D) := runF 3 none b_is_word

abbrev nn_divisor : List Str := ["one", "other"]
def b_divisor : Rho → Out Fl := (sSeq (sSet 0 (eArg absD (aCons (eVar 0) aNil))) (sSeq (sSet 1 (eArg absD (aCons (eVar 1) aNil))) (sSeq (sWhile (fuelInt 1) (tVal (eOp2 neD (eVar 1) (eCon (.int 0)))) (sPar 0 1 (aCons (eVar 1) (aCons (eOp2 modD (eVar 0) (eVar 1)) aNil)))) (sRet (eVar 0)))))
def m_divisor : List D → Out (D × D) := runF 2 none b_divisor

abbrev nn_is_number : List Str := ["one"]
def b_is_number : Rho → Out Fl := (sSeq (sIf (tOrF (tNotF (tVal (eArg isiD (aCons (eVar 0) (aCons (eCon (.ty .tuple)) aNil))))) (tVal (eOp2 neD (eArg lenA (aCons (eVar 0) aNil)) (eCon (.int 2))))) (sRet (eCon (.bl false))) sSkip) (sSeq (sIf (tOrF (tNotF (tVal (eCall m_is_whole (aCons (eOp2 ixA (eVar 0) (eCon (.int 0))) aNil)))) (tNotF (tVal (eCall m_is_whole (aCons (eOp2 ixA (eVar 0) (eCon (.int 1))) aNil))))) (sRet (eCon (.bl false))) sSkip) (sRet (eAndF (eOp2 geA (eOp2 ixA (eVar 0) (eCon (.int 1))) (eCon (.int 1))) (eOp2 eqD (eCall m_divisor (aCons (eOp2 ixA (eVar 0) (eCon (.int 0))) (aCons (eOp2 ixA (eVar 0) (eCon (.int 1))) aNil))) (eCon (.int 1)))))))
def m_is_number : List D → Out (D × D) := runF 1 none b_is_number

abbrev nn_is_term : List Str := ["told", "count"]
def b_is_term : Rho → Out Fl := (sSeq (sIf (tOrF (tNotF (tVal (eArg isiD (aCons (eVar 0) (aCons (eCon (.ty .tuple)) aNil))))) (tVal (eOp2 neD (eArg lenA (aCons (eVar 0) aNil)) (eCon (.int 2))))) (sRet (eCon (.bl false))) sSkip) (sRet (eAndF (eCall m_is_word (aCons (eOp2 ixA (eVar 0) (eCon (.int 0))) (aCons (eVar 1) aNil))) (eAndF (eCall m_is_number (aCons (eOp2 ixA (eVar 0) (eCon (.int 1))) aNil)) (eOp2 neD (eOp2 ixA (eOp2 ixA (eVar 0) (eCon (.int 1))) (eCon (.int 0))) (eCon (.int 0)))))))
def m_is_term : List D → Out (D × D) := runF 2 none b_is_term

abbrev nn_rank : List Str := ["word"]
def b_rank : Rho → Out Fl := (sRet (eTup (aCons (eArg lenA (aCons (eVar 0) aNil)) (aCons (eVar 0) aNil))))
def m_rank : List D → Out (D × D) := runF 1 none b_rank

abbrev nn_check_sum : List Str := ["count", "total", "place", "told"]
def b_check_sum : Rho → Out Fl := (sFor (iArg iEnum1 (aCons (eVar 1) aNil)) (gTup 2 (gCons (gName 2) (gCons (gName 3) gNil))) (sSeq (sIf (tNotF (tVal (eCall m_is_term (aCons (eVar 3) (aCons (eVar 0) aNil))))) sStuck sSkip) (sIf (tAndF (tVal (eOp2 gtA (eVar 2) (eCon (.int 0)))) (tVal (eOp2 geA (eCall m_rank (aCons (eOp2 ixA (eOp2 ixA (eVar 1) (eOp2 subD (eVar 2) (eCon (.int 1)))) (eCon (.int 0))) aNil)) (eCall m_rank (aCons (eOp2 ixA (eVar 3) (eCon (.int 0))) aNil))))) sStuck sSkip)))
def m_check_sum : List D → Out (D × D) := runF 4 none b_check_sum

abbrev nn_told_sum : List Str := ["numbers", "word"]
def b_told_sum : Rho → Out Fl := (sRet (eComp [1] (iSeqA (eSortK m_rank (eVar 0))) (gName 1) tYesF (eTup (aCons (eVar 1) (aCons (eOp2 ixA (eVar 0) (eVar 1)) aNil)))))
def m_told_sum : List D → Out (D × D) := runF 2 none b_told_sum

abbrev nn_lowest : List Str := ["top", "bottom", "shared"]
def b_lowest : Rho → Out Fl := (sSeq (sIf (tVal (eOp2 ltA (eVar 1) (eCon (.int 0)))) (sSeq (sSet 0 (eOp1 negD (eVar 0))) (sSet 1 (eOp1 negD (eVar 1)))) sSkip) (sSeq (sSet 2 (eCall m_divisor (aCons (eVar 0) (aCons (eVar 1) aNil)))) (sRet (eTup (aCons (eOp2 fdivD (eVar 0) (eVar 2)) (aCons (eOp2 fdivD (eVar 1) (eVar 2)) aNil))))))
def m_lowest : List D → Out (D × D) := runF 3 none b_lowest

abbrev nn_plus : List Str := ["one", "other"]
def b_plus : Rho → Out Fl := (sSeq (sIf (tAndF (tVal (eOp2 eqD (eOp2 ixA (eVar 0) (eCon (.int 1))) (eCon (.int 1)))) (tVal (eOp2 eqD (eOp2 ixA (eVar 1) (eCon (.int 1))) (eCon (.int 1))))) (sRet (eTup (aCons (eOp2 addD (eOp2 ixA (eVar 0) (eCon (.int 0))) (eOp2 ixA (eVar 1) (eCon (.int 0)))) (aCons (eCon (.int 1)) aNil)))) sSkip) (sRet (eCall m_lowest (aCons (eOp2 addD (eOp2 repD (eOp2 ixA (eVar 0) (eCon (.int 0))) (eOp2 ixA (eVar 1) (eCon (.int 1)))) (eOp2 repD (eOp2 ixA (eVar 1) (eCon (.int 0))) (eOp2 ixA (eVar 0) (eCon (.int 1))))) (aCons (eOp2 repD (eOp2 ixA (eVar 0) (eCon (.int 1))) (eOp2 ixA (eVar 1) (eCon (.int 1)))) aNil)))))
def m_plus : List D → Out (D × D) := runF 2 none b_plus

abbrev nn_put_to : List Str := ["numbers", "word", "number", "new"]
def b_put_to : Rho → Out Fl := (sSeq (sSet 3 (eCall m_plus (aCons (eDGetO 0 (eVar 1) (eCon k_NOUGHT)) (aCons (eVar 2) aNil)))) (sIf (tVal (eOp2 neD (eOp2 ixA (eVar 3) (eCon (.int 0))) (eCon (.int 0)))) (sSetA 0 (eVar 3) (eVar 1)) (sIf (tPeek (tVal (eOp2 inA (eVar 1) (eVar 0)))) (sExpr (eDPop 0 (eVar 1))) sSkip)))
def m_put_to : List D → Out (D × D) := runF 4 (some 0) b_put_to

abbrev nn_times : List Str := ["one", "other"]
def b_times : Rho → Out Fl := (sSeq (sIf (tAndF (tVal (eOp2 eqD (eOp2 ixA (eVar 0) (eCon (.int 1))) (eCon (.int 1)))) (tVal (eOp2 eqD (eOp2 ixA (eVar 1) (eCon (.int 1))) (eCon (.int 1))))) (sRet (eTup (aCons (eOp2 repD (eOp2 ixA (eVar 0) (eCon (.int 0))) (eOp2 ixA (eVar 1) (eCon (.int 0)))) (aCons (eCon (.int 1)) aNil)))) sSkip) (sRet (eCall m_lowest (aCons (eOp2 repD (eOp2 ixA (eVar 0) (eCon (.int 0))) (eOp2 ixA (eVar 1) (eCon (.int 0)))) (aCons (eOp2 repD (eOp2 ixA (eVar 0) (eCon (.int 1))) (eOp2 ixA (eVar 1) (eCon (.int 1)))) aNil)))))
def m_times : List D → Out (D × D) := runF 2 none b_times

abbrev nn_joined_short : List Str := ["one", "other", "most", "numbers", "word", "number", "behind", "much"]
def b_joined_short : Rho → Out Fl := (sSeq (sSet 3 eDNew) (sSeq (sFor (iSeqA (eVar 0)) (gTup 2 (gCons (gName 4) (gCons (gName 5) gNil))) (sFor (iSeqA (eVar 1)) (gTup 2 (gCons (gName 6) (gCons (gName 7) gNil))) (sIf (tVal (eOp2 leA (eOp2 addD (eArg lenA (aCons (eVar 4) aNil)) (eArg lenA (aCons (eVar 6) aNil))) (eVar 2))) (sExpr (eCallM m_put_to 0 3 (aHoleQ 3 (aCons (eOp2 addD (eVar 4) (eVar 6)) (aCons (eCall m_times (aCons (eVar 5) (aCons (eVar 7) aNil))) aNil))))) sSkip))) (sRet (ePeekL (eCall m_told_sum (aCons (eVar 3) aNil))))))
def m_joined_short : List D → Out (D × D) := runF 8 none b_joined_short

abbrev nn_added_up : List Str := ["total", "shares", "most", "numbers", "power", "share", "word", "number"]
def b_added_up : Rho → Out Fl := (sSeq (sSet 3 eDNew) (sSeq (sSet 4 (eLst (aCons (eTup (aCons (eTup aNil) (aCons (eCon k_ONE) aNil))) aNil))) (sSeq (sFor (iSeqA (eVar 1)) (gName 5) (sSeq (sSet 4 (eCall m_joined_short (aCons (eVar 4) (aCons (eVar 0) (aCons (eVar 2) aNil))))) (sFor (iSeqA (eVar 4)) (gTup 2 (gCons (gName 6) (gCons (gName 7) gNil))) (sExpr (eCallM m_put_to 0 3 (aHoleQ 3 (aCons (eVar 6) (aCons (eCall m_times (aCons (eVar 7) (aCons (eVar 5) aNil))) aNil)))))))) (sRet (eVar 3)))))
def m_added_up : List D → Out (D × D) := runF 8 none b_added_up

abbrev nn_fraction : List Str := ["top", "bottom"]
def b_fraction : Rho → Out Fl := (sSeq (sIf (tVal (eOp2 eqD (eVar 1) (eCon (.int 0)))) sStuck sSkip) (sRet (eCall m_lowest (aCons (eVar 0) (aCons (eVar 1) aNil)))))
def m_fraction : List D → Out (D × D) := runF 2 none b_fraction

abbrev nn_grown_short : List Str := ["total", "most", "numbers", "whole"]
def b_grown_short : Rho → Out Fl := (sSeq (sSet 2 (eCall m_added_up (aCons (eVar 0) (aCons (eComp [3] (iSeqA (eTup (aCons (eCon (.int 1)) (aCons (eCon (.int 2)) (aCons (eCon (.int 6)) (aCons (eCon (.int 24)) (aCons (eCon (.int 120)) aNil))))))) (gName 3) tYesF (eCall m_fraction (aCons (eCon (.int 1)) (aCons (eVar 3) aNil)))) (aCons (eVar 1) aNil))))) (sSeq (sExpr (eCallM m_put_to 0 2 (aHoleQ 2 (aCons (eTup aNil) (aCons (eCon k_ONE) aNil))))) (sRet (ePeekL (eCall m_told_sum (aCons (eVar 2) aNil))))))
def m_grown_short : List D → Out (D × D) := runF 4 none b_grown_short

abbrev nn_gathered : List Str := ["total"]
def b_gathered : Rho → Out Fl := (sRet (eDictL (eVar 0)))
def m_gathered : List D → Out (D × D) := runF 1 none b_gathered

abbrev nn_grown : List Str := ["count", "total"]
def b_grown : Rho → Out Fl := (sSeq (sExpr (eCall m_check_count (aCons (eVar 0) aNil))) (sSeq (sExpr (eCall m_check_sum (aCons (eVar 0) (aCons (eVar 1) aNil)))) (sSeq (sIf (tVal (eOp2 inA (eTup aNil) (eCall m_gathered (aCons (eVar 1) aNil)))) sStuck sSkip) (sRet (eCall m_grown_short (aCons (eVar 1) (aCons (eCon k_MOST) aNil)))))))
def m_grown : List D → Out (D × D) := runF 2 none b_grown

abbrev nn_logged_short : List Str := ["total", "most", "rest", "word", "number"]
def b_logged_short : Rho → Out Fl := (sSeq (sSet 2 (eComp [3, 4] (iSeqA (eVar 0)) (gTup 2 (gCons (gName 3) (gCons (gName 4) gNil))) (tVal (eOp2 neD (eVar 3) (eTup aNil))) (eTup (aCons (eVar 3) (aCons (eVar 4) aNil))))) (sRet (eCall m_told_sum (aCons (eCall m_added_up (aCons (eVar 2) (aCons (eLst (aCons (eTup (aCons (eCon (.int 1)) (aCons (eCon (.int 1)) aNil))) (aCons (eTup (aCons (eOp1 negD (eCon (.int 1))) (aCons (eCon (.int 2)) aNil))) (aCons (eTup (aCons (eCon (.int 1)) (aCons (eCon (.int 3)) aNil))) (aCons (eTup (aCons (eOp1 negD (eCon (.int 1))) (aCons (eCon (.int 4)) aNil))) (aCons (eTup (aCons (eCon (.int 1)) (aCons (eCon (.int 5)) aNil))) aNil)))))) (aCons (eVar 1) aNil)))) aNil))))
def m_logged_short : List D → Out (D × D) := runF 5 none b_logged_short

abbrev nn_logged : List Str := ["count", "total"]
def b_logged : Rho → Out Fl := (sSeq (sExpr (eCall m_check_count (aCons (eVar 0) aNil))) (sSeq (sExpr (eCall m_check_sum (aCons (eVar 0) (aCons (eVar 1) aNil)))) (sSeq (sIf (tVal (eOp2 neD (eDGet (eCall m_gathered (aCons (eVar 1) aNil)) (eTup aNil) (eCon k_NOUGHT)) (eCon k_ONE))) sStuck sSkip) (sRet (eCall m_logged_short (aCons (eVar 1) (aCons (eCon k_MOST) aNil)))))))
def m_logged : List D → Out (D × D) := runF 2 none b_logged

abbrev nn_law : List Str := ["_law_script", "_law_k", "_law_purse_here", "_law_count", "_law_one", "_law_whole", "_law_dues", "_law_handed", "_law_turn", "_law_told_here", "_law_back", "_law_found"]
def b_law : Rho → Out Fl := (sSeq (sFor (iRange (aCons (eOp2 addD (eCon (.int 1)) (eArg intD (aCons (eOp2 gtA (eArg lenA (aCons (eVar 0) aNil)) (eCon (.int 1))) aNil))) aNil)) (gName 1) (sSeq (sSet 2 (eCall m__law_purse (aCons (eCall m__law_at (aCons (eVar 0) (aCons (eVar 1) aNil))) (aCons (eVar 1) aNil)))) (sSeq (sSet 3 (eOp2 addD (eCon (.int 1)) (eCallM m__law_take 0 2 (aHoleQ 2 (aCons (eCon (.int 4)) aNil))))) (sSeq (sSet 4 (eCallM m__law_drawn 0 2 (aHoleQ 2 (aCons (eVar 3) aNil)))) (sSeq (sSet 5 (eOp2 addD (eLst (aCons (eTup (aCons (eTup aNil) (aCons (eTup (aCons (eCon (.int 1)) (aCons (eCon (.int 1)) aNil))) aNil))) aNil)) (eVar 4))) (sSeq (sSet 6 (eLst (aCons (eCall m__law_grown (aCons (eVar 4) aNil)) (aCons (eCall m__law_logged (aCons (eVar 5) aNil)) aNil)))) (sSeq (sSet 7 (eLst (aCons (eArg listD (aCons (eVar 4) aNil)) (aCons (eArg listD (aCons (eVar 5) aNil)) aNil)))) (sFor (iRange (aCons (eCon (.int 2)) aNil)) (gName 8) (sTree (sSeqT (tSetT [] [] 9 (eLst (aCons (eTrO (eCall m_grown (aCons (eVar 3) (aCons (eOp2 ixA (eVar 7) (eCon (.int 0))) aNil)))) (aCons (eTrO (eCall m_logged (aCons (eVar 3) (aCons (eOp2 ixA (eVar 7) (eCon (.int 1))) aNil)))) aNil)))) (sSeqT (sIf (tTest [] [] (tOrF (tVal (eOp2 neS (eArg strD (aCons (eVar 9) aNil)) (eArg strD (aCons (eVar 6) aNil)))) (tVal (eOp2 neD (eVar 7) (eLst (aCons (eVar 4) (aCons (eVar 5) aNil))))))) (tBase none [9] (sRet (eCon (.bl false)))) sSkip) (sSeqT (tSetT [] [] 10 (eLst (aCons (eTrO (eCall m_logged (aCons (eVar 3) (aCons (eOp2 ixA (eVar 9) (eCon (.int 0))) aNil)))) (aCons (eTrO (eCall m_grown (aCons (eVar 3) (aCons (eOp2 ixA (eVar 9) (eCon (.int 1))) aNil)))) aNil)))) (sSeqT (sIf (tTest [] [] (tOrF (tVal (eOp2 neD (eVar 10) (eLst (aCons (eVar 4) (aCons (eVar 5) aNil))))) (tVal (eOp2 neD (eVar 9) (eVar 6))))) (tBase none [10, 9] (sRet (eCon (.bl false)))) sSkip) (tForClear2 9 10 11)))))))))))))) (sRet (eCon (.bl true))))
def m_law : List D → Out (D × D) := runF 12 none b_law

end Lw

set_option maxRecDepth 100000
set_option exponentiation.threshold 4000
namespace Lw
open PySem PySem.Spec PyProof.Rows L2 SW
/-! the purse: how a cell's digits are taken -/
def mixA (c k : Int) : Int := (c % 1000000000000000009 + 7 * k) * 739108512309184756019283746561 + 7919 * k + 1
def mixB (c k : Int) : Int := mixA c k * mixA c k % 1000000000000000000000000000000000000000000000000000000000007
def mixR (c k : Int) : Int := (mixB c k + 40503) * (mixB c k + 57) % 1000000000000000000000000000000000000000000000000000000000007
theorem mixR_bound (c k : Int) : 0 ≤ mixR c k ∧ mixR c k < 1000000000000000000000000000000000000000000000000000000000007 := by
  unfold mixR
  exact ⟨Int.emod_nonneg _ (by omega), Int.emod_lt_of_pos _ (by omega)⟩
theorem natAbs_lt {i : Int} {n : Nat} (h0 : 0 ≤ i) (h : i < (n : Int)) : i.natAbs < n := by omega
theorem two_pow_cast (n : Nat) : ((2 ^ n : Nat) : Int) = (2 : Int) ^ n := by simp
theorem mix_ok (c k : Int) (h0 : 0 ≤ k) (hk : k < 2 ^ 1000) : m__law_mixed [.int c, .int k] = .ok (.int (mixR c k), .non) := by
  have b1 : bits2 7 k = true := bits2_l (by decide)
  have b2 : bits2 7919 k = true := bits2_l (by decide)
  have hc0 : 0 ≤ c % 1000000000000000009 := Int.emod_nonneg _ (by omega)
  have hc1 : c % 1000000000000000009 < 1000000000000000009 := Int.emod_lt_of_pos _ (by omega)
  have e1000 : (2 : Int) ^ 1000 = ((2 ^ 1000 : Nat) : Int) := (two_pow_cast 1000).symm
  have h1 : (c % 1000000000000000009 + 7 * k).natAbs < 2 ^ 1100 := by
    have : (2 : Nat) ^ 1100 = 2 ^ 1000 * 2 ^ 100 := by rw [← Nat.pow_add]
    have h2 : (2 : Nat) ^ 100 = 1267650600228229401496703205376 := by decide
    rw [e1000] at hk
    generalize (2 : Nat) ^ 1000 = N at hk this
    omega
  have b3 : bits2 (c % 1000000000000000009 + 7 * k) 739108512309184756019283746561 = true := bits2_of (b := 200) h1 (by decide) (by decide)
  have hA : (mixA c k).natAbs < 2 ^ 1400 := by
    unfold mixA
    have : (2 : Nat) ^ 1400 = 2 ^ 1000 * 2 ^ 400 := by rw [← Nat.pow_add]
    have h2 : (2 : Nat) ^ 400 > 10 ^ 100 := by decide
    rw [e1000] at hk
    generalize (2 : Nat) ^ 1000 = N at hk this
    generalize (2 : Nat) ^ 400 = M at h2 this
    have h3 : N * 10 ^ 100 ≤ N * M := Nat.mul_le_mul_left _ (Nat.le_of_lt h2)
    omega
  have b4 : bits2 (mixA c k) (mixA c k) = true := bits2_of hA hA (by decide)
  have hB0 : 0 ≤ mixB c k := Int.emod_nonneg _ (by omega)
  have hB1 : mixB c k < 1000000000000000000000000000000000000000000000000000000000007 := Int.emod_lt_of_pos _ (by omega)
  have b5 : bits2 (mixB c k + 40503) (mixB c k + 57) = true := by
    have h2 : (2 : Nat) ^ 300 > 10 ^ 70 := by decide
    refine bits2_of (a := 300) (b := 300) ?_ ?_ (by decide)
    · omega
    · omega
  unfold mixA at b4
  unfold mixB mixA at b5
  have e9 : (1000000000000000000 : Int) + 9 = 1000000000000000009 := by decide
  have e7 : (1000000000000000000000000000000000000000000000000000000000000 : Int) + 7 = 1000000000000000000000000000000000000000000000000000000000007 := by decide
  simp (disch := first | assumption | decide | omega) only [m__law_mixed, b__law_mixed, runF, m0, sSeq, sSet, sIf, sRet, sRetN, sExpr, sSkip_ok, sSetA, sSetIx, sFor, sPar, sBind, sAug, eVar, eCon_ok, eOp2, eOp1, eCall, eCallM, eCallT, eTup, eLst, eArg, eIf, tVal, tNotF, tAndF, tOrF, eB, eAndF, eOrF, eNotF, eIxA, eIxO, eCatO, ixA_lst, ixA_tup, ixA_scr, eDNew, eDGet, eDGetO, eDPop, eSortK, eMM, aHoleQ, aHole, aNil_ok, aCons, oNone_ok, oSome, eSlice, eSliceL, iSeqA, iSeq, iRange, iArg, ePeek, tPeek, eOwnM, tYes_ok, bind_ok, bind_exc, bind_stuck, of_some, flatD, SW.gName, List.getD_cons_zero, List.getD_cons_succ, List.set_cons_zero, List.set_cons_succ, List.map_cons, List.map_nil, List.length_cons, List.length_nil, List.cons_append, List.nil_append, List.replicate, Nat.reduceAdd, Nat.reduceSub, addD_int, subD_int, negD_int, repD_int, modD_int, fdivD_int, ltA_int, leA_int, gtA_int, geA_int, eqD_int, neD_int, pow_10_18, pow_10_60, e9, e7, mixR, mixB, mixA]
/-- a purse -/
def purseD (a b c : Int) : D := .lst [.int a, .int b, .int c]
structure Ps (n : Nat) (d : D) : Prop where
  ex : ∃ a b c : Int, d = purseD a b c ∧ 0 ≤ a ∧ 0 ≤ b ∧ b + n ≤ 2 ^ 900
theorem ix0 {a b c : Int} : ixD (.lst [.int a, .int b, .int c]) (.int 0) = some (.int a) := rfl
theorem ix1 {a b c : Int} : ixD (.lst [.int a, .int b, .int c]) (.int 1) = some (.int b) := rfl
theorem ix2 {a b c : Int} : ixD (.lst [.int a, .int b, .int c]) (.int 2) = some (.int c) := rfl
theorem ixN30 : ixN 3 0 = some 0 := by decide
theorem ixN31 : ixN 3 1 = some 1 := by decide
theorem take_ok {n : Nat} {p : D} {many : Int} (hp : Ps (n + 1) p) (h1 : 1 ≤ many) (h2 : many < 2 ^ 200) : ∃ (g : Int) (p' : D), m__law_take [p, .int many] = .ok (.int g, p') ∧ 0 ≤ g ∧ g < many ∧ Ps n p' := by
  obtain ⟨a, b, c, rfl, h0, hb, hn⟩ := hp.ex
  have e900 : (2 : Int) ^ 900 = ((2 ^ 900 : Nat) : Int) := (two_pow_cast 900).symm
  have e1000 : (2 : Int) ^ 1000 = ((2 ^ 1000 : Nat) : Int) := (two_pow_cast 1000).symm
  have ee : (2 : Nat) ^ 1000 = 2 ^ 900 * 2 ^ 100 := by rw [← Nat.pow_add]
  have e100 : (2 : Nat) ^ 100 = 1267650600228229401496703205376 := by decide
  have hk : 11 * (b + 1) + 5 < 2 ^ 1000 := by
    rw [e1000, ee]
    rw [e900] at hn
    generalize (2 : Nat) ^ 900 = N at hn ⊢
    omega
  have bm : bits2 11 (b + 1) = true := bits2_l (by decide)
  have hmix := mix_ok c (11 * (b + 1) + 5) (by omega) hk
  obtain ⟨r0, r1⟩ := mixR_bound c (11 * (b + 1) + 5)
  have bmm : bits2 many (mixR c (11 * (b + 1) + 5)) = true := by
    have h5 : (2 : Int) ^ 200 = ((2 ^ 200 : Nat) : Int) := (two_pow_cast 200).symm
    rw [h5] at h2
    refine bits2_of (a := 200) (b := 300) (natAbs_lt (by omega) h2) ?_ (by decide)
    have h2 : (2 : Nat) ^ 300 > 10 ^ 70 := by decide
    omega
  have hpos : 0 < many := by omega
  by_cases hlt : a < many
  · have hmul : 0 ≤ many * mixR c (11 * (b + 1) + 5) := Int.mul_nonneg (by omega) r0
    refine ⟨(a + many * mixR c (11 * (b + 1) + 5)) % many, purseD ((a + many * mixR c (11 * (b + 1) + 5)) / many) (b + 1) c, ?_, Int.emod_nonneg _ (by omega), Int.emod_lt_of_pos _ hpos, ⟨_, _, _, rfl, ?_, by omega, by omega⟩⟩
    · simp (disch := first | assumption | decide | omega) only [m__law_take, b__law_take, purseD, runF, m0, sSeq, sSet, sIf, sRet, sRetN, sExpr, sSkip_ok, sSetA, sSetIx, sFor, sPar, sBind, sAug, eVar, eCon_ok, eOp2, eOp1, eCall, eCallM, eCallT, eTup, eLst, eArg, eIf, tVal, tNotF, tAndF, tOrF, eB, eAndF, eOrF, eNotF, eIxA, eIxO, eCatO, ixA_lst, ixA_tup, ixA_scr, eDNew, eDGet, eDGetO, eDPop, eSortK, eMM, aHoleQ, aHole, aNil_ok, aCons, oNone_ok, oSome, eSlice, eSliceL, iSeqA, iSeq, iRange, iArg, ePeek, tPeek, eOwnM, tYes_ok, bind_ok, bind_exc, bind_stuck, of_some, flatD, SW.gName, List.getD_cons_zero, List.getD_cons_succ, List.set_cons_zero, List.set_cons_succ, List.map_cons, List.map_nil, List.length_cons, List.length_nil, List.cons_append, List.nil_append, List.replicate, Nat.reduceAdd, Nat.reduceSub, addD_int, subD_int, negD_int, repD_int, modD_int, fdivD_int, ltA_int, leA_int, gtA_int, geA_int, eqD_int, neD_int, pow_10_18, pow_10_60, ix0, ix1, ix2, decide_eq_true hlt, if_true, ixN30, ixN31, hmix, Option.getD_some]
    · exact Int.ediv_nonneg (by omega) (by omega)
  · refine ⟨a % many, purseD (a / many) b c, ?_, Int.emod_nonneg _ (by omega), Int.emod_lt_of_pos _ hpos, ⟨_, _, _, rfl, Int.ediv_nonneg h0 (by omega), hb, by omega⟩⟩
    simp (disch := first | assumption | decide | omega) only [m__law_take, b__law_take, purseD, runF, m0, sSeq, sSet, sIf, sRet, sRetN, sExpr, sSkip_ok, sSetA, sSetIx, sFor, sPar, sBind, sAug, eVar, eCon_ok, eOp2, eOp1, eCall, eCallM, eCallT, eTup, eLst, eArg, eIf, tVal, tNotF, tAndF, tOrF, eB, eAndF, eOrF, eNotF, eIxA, eIxO, eCatO, ixA_lst, ixA_tup, ixA_scr, eDNew, eDGet, eDGetO, eDPop, eSortK, eMM, aHoleQ, aHole, aNil_ok, aCons, oNone_ok, oSome, eSlice, eSliceL, iSeqA, iSeq, iRange, iArg, ePeek, tPeek, eOwnM, tYes_ok, bind_ok, bind_exc, bind_stuck, of_some, flatD, SW.gName, List.getD_cons_zero, List.getD_cons_succ, List.set_cons_zero, List.set_cons_succ, List.map_cons, List.map_nil, List.length_cons, List.length_nil, List.cons_append, List.nil_append, List.replicate, Nat.reduceAdd, Nat.reduceSub, addD_int, subD_int, negD_int, repD_int, modD_int, fdivD_int, ltA_int, leA_int, gtA_int, geA_int, eqD_int, neD_int, pow_10_18, pow_10_60, ix0, ix1, ix2, decide_eq_false hlt, if_false, Bool.false_eq_true, ixN30, ixN31, Option.getD_some]

/-! what a law reads and draws -/
theorem law_at_ok (ns : List Int) (k : Int) (hk : 0 ≤ k) : ∃ i : Int, m__law_at [.scr ns, .int k] = .ok (.int i, .non) := by
  by_cases h : k < ns.length
  · have e : ixD (.scr ns) (.int k) = some (.int (ns.getD k.toNat 0)) := by
      show (atI ns k).map D.int = _
      unfold atI ixN
      rw [if_pos hk, if_pos h]
      show (ns[k.toNat]?).map D.int = _
      rw [List.getD_eq_getElem?_getD, List.getElem?_eq_getElem (by omega)]
      rfl
    refine ⟨ns.getD k.toNat 0, ?_⟩
    · have el : lenA [.scr ns] = some (.int ns.length) := rfl
      simp (disch := first | assumption | decide | omega) only [m__law_at, b__law_at, runF, m0, sSeq, sSet, sIf, sRet, sRetN, sExpr, sSkip_ok, sSetA, sSetIx, sFor, sPar, sBind, sAug, eVar, eCon_ok, eOp2, eOp1, eCall, eCallM, eCallT, eTup, eLst, eArg, eIf, tVal, tNotF, tAndF, tOrF, eB, eAndF, eOrF, eNotF, eIxA, eIxO, eCatO, ixA_lst, ixA_tup, ixA_scr, eDNew, eDGet, eDGetO, eDPop, eSortK, eMM, aHoleQ, aHole, aNil_ok, aCons, oNone_ok, oSome, eSlice, eSliceL, iSeqA, iSeq, iRange, iArg, ePeek, tPeek, eOwnM, tYes_ok, bind_ok, bind_exc, bind_stuck, of_some, flatD, SW.gName, List.getD_cons_zero, List.getD_cons_succ, List.set_cons_zero, List.set_cons_succ, List.map_cons, List.map_nil, List.length_cons, List.length_nil, List.cons_append, List.nil_append, List.replicate, Nat.reduceAdd, Nat.reduceSub, addD_int, subD_int, negD_int, repD_int, modD_int, fdivD_int, ltA_int, leA_int, gtA_int, geA_int, eqD_int, neD_int, pow_10_18, pow_10_60, el, decide_eq_true h, if_true, e]
  · refine ⟨3 * k + 1, ?_⟩
    have el : lenA [.scr ns] = some (.int ns.length) := rfl
    have b3 : bits2 3 k = true := bits2_l (by decide)
    simp (disch := first | assumption | decide | omega) only [m__law_at, b__law_at, runF, m0, sSeq, sSet, sIf, sRet, sRetN, sExpr, sSkip_ok, sSetA, sSetIx, sFor, sPar, sBind, sAug, eVar, eCon_ok, eOp2, eOp1, eCall, eCallM, eCallT, eTup, eLst, eArg, eIf, tVal, tNotF, tAndF, tOrF, eB, eAndF, eOrF, eNotF, eIxA, eIxO, eCatO, ixA_lst, ixA_tup, ixA_scr, eDNew, eDGet, eDGetO, eDPop, eSortK, eMM, aHoleQ, aHole, aNil_ok, aCons, oNone_ok, oSome, eSlice, eSliceL, iSeqA, iSeq, iRange, iArg, ePeek, tPeek, eOwnM, tYes_ok, bind_ok, bind_exc, bind_stuck, of_some, flatD, SW.gName, List.getD_cons_zero, List.getD_cons_succ, List.set_cons_zero, List.set_cons_succ, List.map_cons, List.map_nil, List.length_cons, List.length_nil, List.cons_append, List.nil_append, List.replicate, Nat.reduceAdd, Nat.reduceSub, addD_int, subD_int, negD_int, repD_int, modD_int, fdivD_int, ltA_int, leA_int, gtA_int, geA_int, eqD_int, neD_int, pow_10_18, pow_10_60, el, decide_eq_false h, if_false, Bool.false_eq_true]
theorem purse_ok (c k : Int) (h0 : 0 ≤ k) (hk : k < 2 ^ 1000) : ∃ p, m__law_purse [.int c, .int k] = .ok (p, .non) ∧ Ps 1000000 p := by
  have e : (1000000000000000000 : Int) + 9 = 1000000000000000009 := by decide
  have big : (1000000 : Int) ≤ 2 ^ 900 := by decide
  by_cases h : (1000000000000000000 : Int) ≤ c
  · refine ⟨_, ?_, ⟨c - 1000000000000000000, 0, k, rfl, by omega, by omega, by simpa using big⟩⟩
    simp (disch := first | assumption | decide | omega) only [m__law_purse, b__law_purse, runF, m0, sSeq, sSet, sIf, sRet, sRetN, sExpr, sSkip_ok, sSetA, sSetIx, sFor, sPar, sBind, sAug, eVar, eCon_ok, eOp2, eOp1, eCall, eCallM, eCallT, eTup, eLst, eArg, eIf, tVal, tNotF, tAndF, tOrF, eB, eAndF, eOrF, eNotF, eIxA, eIxO, eCatO, ixA_lst, ixA_tup, ixA_scr, eDNew, eDGet, eDGetO, eDPop, eSortK, eMM, aHoleQ, aHole, aNil_ok, aCons, oNone_ok, oSome, eSlice, eSliceL, iSeqA, iSeq, iRange, iArg, ePeek, tPeek, eOwnM, tYes_ok, bind_ok, bind_exc, bind_stuck, of_some, flatD, SW.gName, List.getD_cons_zero, List.getD_cons_succ, List.set_cons_zero, List.set_cons_succ, List.map_cons, List.map_nil, List.length_cons, List.length_nil, List.cons_append, List.nil_append, List.replicate, Nat.reduceAdd, Nat.reduceSub, addD_int, subD_int, negD_int, repD_int, modD_int, fdivD_int, ltA_int, leA_int, gtA_int, geA_int, eqD_int, neD_int, pow_10_18, pow_10_60, decide_eq_true h, if_true, purseD]
  · refine ⟨_, ?_, ⟨mixR c k, 0, c % 1000000000000000009 + k, rfl, (mixR_bound c k).1, by omega, by simpa using big⟩⟩
    simp (disch := first | assumption | decide | omega) only [m__law_purse, b__law_purse, runF, m0, sSeq, sSet, sIf, sRet, sRetN, sExpr, sSkip_ok, sSetA, sSetIx, sFor, sPar, sBind, sAug, eVar, eCon_ok, eOp2, eOp1, eCall, eCallM, eCallT, eTup, eLst, eArg, eIf, tVal, tNotF, tAndF, tOrF, eB, eAndF, eOrF, eNotF, eIxA, eIxO, eCatO, ixA_lst, ixA_tup, ixA_scr, eDNew, eDGet, eDGetO, eDPop, eSortK, eMM, aHoleQ, aHole, aNil_ok, aCons, oNone_ok, oSome, eSlice, eSliceL, iSeqA, iSeq, iRange, iArg, ePeek, tPeek, eOwnM, tYes_ok, bind_ok, bind_exc, bind_stuck, of_some, flatD, SW.gName, List.getD_cons_zero, List.getD_cons_succ, List.set_cons_zero, List.set_cons_succ, List.map_cons, List.map_nil, List.length_cons, List.length_nil, List.cons_append, List.nil_append, List.replicate, Nat.reduceAdd, Nat.reduceSub, addD_int, subD_int, negD_int, repD_int, modD_int, fdivD_int, ltA_int, leA_int, gtA_int, geA_int, eqD_int, neD_int, pow_10_18, pow_10_60, decide_eq_false h, if_false, Bool.false_eq_true, mix_ok c k h0 hk, e, purseD]
theorem Ps.mono {n m : Nat} {p : D} (h : n ≤ m) (hp : Ps m p) : Ps n p := by
  obtain ⟨a, b, c, e, h0, hb, hn⟩ := hp.ex
  exact ⟨a, b, c, e, h0, hb, by omega⟩
theorem addD_lst (a b : List D) (h : a.length + b.length ≤ 1000) : addD (.lst a) (.lst b) = some (.lst (a ++ b)) := by
  show (if a.length + b.length ≤ sizeLine then some (D.lst (a ++ b)) else none) = _
  rw [if_pos (Nat.le_trans h (by decide))]
/-! fractions -/
def eRat : Enc Rat where
  en r := .tup [.int r.num, .int ((r.den : Nat) : Int)]
  py r := .tuple [.int r.num, .int ((r.den : Nat) : Int)]
  dp := 1
  hpy _ := rfl
  heq a b := by
    show (((a.num : Int) == b.num) && ((((a.den : Nat) : Int) == ((b.den : Nat) : Int)) && true)) = _
    rw [Bool.eq_iff_iff, Bool.and_true, Bool.and_eq_true, beq_iff_eq, beq_iff_eq, decide_eq_true_iff]
    constructor
    · rintro ⟨h1, h2⟩; exact Rat.ext h1 (by omega)
    · rintro rfl; exact ⟨rfl, rfl⟩
  lay _ := by simp [PyData.canLay0, PyData.canLayAll0]
  hdp _ := by simp [PyData.depth, PyData.depthAll]
/-! the greatest divisor -/
theorem gcd_loop : ∀ (n a b : Nat), b < n → whileL (tVal (eOp2 neD (eVar 1) (eCon (.int 0)))) (sPar 0 1 (aCons (eVar 1) (aCons (eOp2 modD (eVar 0) (eVar 1)) aNil))) n [some (.int ((a : Nat) : Int)), some (.int ((b : Nat) : Int))] = .ok (.nx [some (.int ((Nat.gcd a b : Nat) : Int)), some (.int 0)])
  | 0, a, b, h => by omega
  | n + 1, a, b, h => by
    by_cases hb : b = 0
    · subst hb
      unfold whileL
      have d0 : ((0 : Nat) : Int) = 0 := rfl
      simp (disch := first | assumption | decide | omega) only [runF, m0, sSeq, sSet, sIf, sRet, sRetN, sExpr, sSkip_ok, sSetA, sSetIx, sFor, sPar, sBind, sAug, eVar, eCon_ok, eOp2, eOp1, eCall, eCallM, eCallT, eTup, eLst, eArg, eIf, tVal, tNotF, tAndF, tOrF, eB, eAndF, eOrF, eNotF, eIxA, eIxO, eCatO, ixA_lst, ixA_tup, ixA_scr, eDNew, eDGet, eDGetO, eDPop, eSortK, eMM, aHoleQ, aHole, aNil_ok, aCons, oNone_ok, oSome, eSlice, eSliceL, iSeqA, iSeq, iRange, iArg, ePeek, tPeek, eOwnM, tYes_ok, bind_ok, bind_exc, bind_stuck, of_some, flatD, SW.gName, List.getD_cons_zero, List.getD_cons_succ, List.set_cons_zero, List.set_cons_succ, List.map_cons, List.map_nil, List.length_cons, List.length_nil, List.cons_append, List.nil_append, List.replicate, Nat.reduceAdd, Nat.reduceSub, addD_int, subD_int, negD_int, repD_int, modD_int, fdivD_int, ltA_int, leA_int, gtA_int, geA_int, eqD_int, neD_int, pow_10_18, pow_10_60, decide_eq_true d0, Bool.not_true, Bool.false_eq_true, if_false, Nat.gcd_zero_right]
      rfl
    · have d0 : ¬ ((b : Nat) : Int) = 0 := by omega
      have dp : (0 : Int) < ((b : Nat) : Int) := by omega
      have hm : a % b < b := Nat.mod_lt _ (by omega)
      have ih := gcd_loop n b (a % b) (by omega)
      have eg : Nat.gcd b (a % b) = Nat.gcd a b := by rw [Nat.gcd_comm a b, Nat.gcd_rec b a, Nat.gcd_comm]
      have em : ((a : Nat) : Int) % ((b : Nat) : Int) = ((a % b : Nat) : Int) := (Int.natCast_emod a b).symm
      rw [eg] at ih
      unfold whileL
      simp (disch := first | assumption | decide | omega) only [tVal, eOp2, eVar, eCon_ok, bind_ok, of_some, neD_int, List.getD_cons_zero, List.getD_cons_succ, decide_eq_false d0, Bool.not_false, if_true, sPar, aCons, aNil_ok, modD_int dp, em, List.set_cons_zero, List.set_cons_succ]
      exact ih
theorem absD_int (i : Int) : absD [.int i] = some (.int ((i.natAbs : Nat) : Int)) := by
  show some (D.int (if i < 0 then -i else i)) = _
  congr 2
  split <;> omega
theorem divisor_ok (a b : Int) : m_divisor [.int a, .int b] = .ok (.int ((Nat.gcd a.natAbs b.natAbs : Nat) : Int), .non) := by
  have e := gcd_loop (b.natAbs + 1) a.natAbs b.natAbs (by omega)
  have ef : fuelInt 1 [some (.int ((a.natAbs : Nat) : Int)), some (.int ((b.natAbs : Nat) : Int))] = b.natAbs + 1 := by
    show ((b.natAbs : Nat) : Int).natAbs + 1 = _
    rw [Int.natAbs_natCast]
  simp (disch := first | assumption | decide | omega) only [m_divisor, b_divisor, runF, m0, sSeq, sSet, sIf, sRet, sRetN, sExpr, sSkip_ok, sSetA, sSetIx, sFor, sPar, sBind, sAug, eVar, eCon_ok, eOp2, eOp1, eCall, eCallM, eCallT, eTup, eLst, eArg, eIf, tVal, tNotF, tAndF, tOrF, eB, eAndF, eOrF, eNotF, eIxA, eIxO, eCatO, ixA_lst, ixA_tup, ixA_scr, eDNew, eDGet, eDGetO, eDPop, eSortK, eMM, aHoleQ, aHole, aNil_ok, aCons, oNone_ok, oSome, eSlice, eSliceL, iSeqA, iSeq, iRange, iArg, ePeek, tPeek, eOwnM, tYes_ok, bind_ok, bind_exc, bind_stuck, of_some, flatD, SW.gName, List.getD_cons_zero, List.getD_cons_succ, List.set_cons_zero, List.set_cons_succ, List.map_cons, List.map_nil, List.length_cons, List.length_nil, List.cons_append, List.nil_append, List.replicate, Nat.reduceAdd, Nat.reduceSub, addD_int, subD_int, negD_int, repD_int, modD_int, fdivD_int, ltA_int, leA_int, gtA_int, geA_int, eqD_int, neD_int, pow_10_18, pow_10_60, absD_int, sWhile, ef]
  rw [e]
  rfl
theorem mkRat_num' (t : Int) {d : Nat} (hd : d ≠ 0) : (mkRat t d).num = t / ((Nat.gcd t.natAbs d : Nat) : Int) := by
  rw [Rat.num_mkRat, if_neg hd, Nat.gcd_comm]
theorem mkRat_den' (t : Int) {d : Nat} (hd : d ≠ 0) : (mkRat t d).den = d / Nat.gcd t.natAbs d := by
  rw [Rat.den_mkRat, if_neg hd, Nat.gcd_comm]
theorem lowest_ok (t : Int) {d : Nat} (hd : d ≠ 0) : m_lowest [.int t, .int ((d : Nat) : Int)] = .ok (eRat.en (mkRat t d), .non) := by
  have e := divisor_ok t ((d : Nat) : Int)
  rw [Int.natAbs_natCast] at e
  have g0 : 0 < Nat.gcd t.natAbs d := Nat.gcd_pos_of_pos_right _ (by omega)
  have gl : Nat.gcd t.natAbs d ≤ d := Nat.le_of_dvd (by omega) (Nat.gcd_dvd_right _ _)
  have g1 : (0 : Int) < ((Nat.gcd t.natAbs d : Nat) : Int) := by omega
  have dn : ¬ ((d : Nat) : Int) < 0 := by omega
  have f1 := fdivD_int (i := t) g1
  have f2 := fdivD_int (i := ((d : Nat) : Int)) g1
  have e2 : ((d : Nat) : Int) / ((Nat.gcd t.natAbs d : Nat) : Int) = ((d / Nat.gcd t.natAbs d : Nat) : Int) := (Int.natCast_ediv _ _).symm
  rw [e2] at f2
  show _ = Out.ok (D.tup [.int (mkRat t d).num, .int (((mkRat t d).den : Nat) : Int)], _)
  rw [mkRat_num' t hd, mkRat_den' t hd]
  simp (disch := first | assumption | decide | omega) only [m_lowest, b_lowest, runF, m0, sSeq, sSet, sIf, sRet, sRetN, sExpr, sSkip_ok, sSetA, sSetIx, sFor, sPar, sBind, sAug, eVar, eCon_ok, eOp2, eOp1, eCall, eCallM, eCallT, eTup, eLst, eArg, eIf, tVal, tNotF, tAndF, tOrF, eB, eAndF, eOrF, eNotF, eIxA, eIxO, eCatO, ixA_lst, ixA_tup, ixA_scr, eDNew, eDGet, eDGetO, eDPop, eSortK, eMM, aHoleQ, aHole, aNil_ok, aCons, oNone_ok, oSome, eSlice, eSliceL, iSeqA, iSeq, iRange, iArg, ePeek, tPeek, eOwnM, tYes_ok, bind_ok, bind_exc, bind_stuck, of_some, flatD, SW.gName, List.getD_cons_zero, List.getD_cons_succ, List.set_cons_zero, List.set_cons_succ, List.map_cons, List.map_nil, List.length_cons, List.length_nil, List.cons_append, List.nil_append, List.replicate, Nat.reduceAdd, Nat.reduceSub, addD_int, subD_int, negD_int, repD_int, modD_int, fdivD_int, ltA_int, leA_int, gtA_int, geA_int, eqD_int, neD_int, pow_10_18, pow_10_60, decide_eq_false dn, Bool.false_eq_true, if_false, e, f1, f2]
/-! how great a fraction is -/
structure Sz (k : Nat) (r : Rat) : Prop where
  n : r.num.natAbs < 2 ^ k
  d : r.den < 2 ^ k
theorem Sz.mono {k m : Nat} {r : Rat} (h : Sz k r) (hm : k ≤ m) : Sz m r := ⟨Nat.lt_of_lt_of_le h.n (Nat.pow_le_pow_right (by decide) hm), Nat.lt_of_lt_of_le h.d (Nat.pow_le_pow_right (by decide) hm)⟩
theorem sz_mk {k : Nat} {t : Int} {d : Nat} (h1 : t.natAbs < 2 ^ k) (h2 : d < 2 ^ k) (h0 : 0 < k) : Sz k (mkRat t d) := by
  by_cases hd : d = 0
  · subst hd
    rw [Rat.mkRat_zero]
    exact ⟨Nat.pow_pos (by decide), Nat.one_lt_two_pow (by omega)⟩
  · refine ⟨?_, ?_⟩
    · rw [mkRat_num' t hd]
      exact Nat.lt_of_le_of_lt (Int.natAbs_ediv_le_natAbs _ _) h1
    · rw [mkRat_den' t hd]
      exact Nat.lt_of_le_of_lt (Nat.div_le_self _ _) h2
theorem mul_lt_pow {a b i j : Nat} (h1 : a < 2 ^ i) (h2 : b < 2 ^ j) : a * b < 2 ^ (i + j) := by
  rw [Nat.pow_add]
  rcases Nat.eq_zero_or_pos b with hb | hb
  · subst hb
    rw [Nat.mul_zero]
    exact Nat.mul_pos (Nat.pow_pos (by decide)) (Nat.pow_pos (by decide))
  · exact Nat.lt_of_lt_of_le (Nat.mul_lt_mul_of_pos_right h1 hb) (Nat.mul_le_mul_left _ (Nat.le_of_lt h2))
theorem den_pos' (r : Rat) : 0 < r.den := Nat.pos_of_ne_zero r.den_nz
theorem Sz.pos {k : Nat} {r : Rat} (h : Sz k r) : 0 < k := by
  rcases Nat.eq_zero_or_pos k with z | z
  · subst z
    have := h.d
    have := den_pos' r
    omega
  · exact z
theorem Sz.mul {i j : Nat} {a b : Rat} (h1 : Sz i a) (h2 : Sz j b) : Sz (i + j) (a * b) := by
  rw [Rat.mul_def']
  refine sz_mk ?_ (mul_lt_pow h1.d h2.d) (by have := h1.pos; omega)
  rw [Int.natAbs_mul]
  exact mul_lt_pow h1.n h2.n
theorem Sz.add {i j : Nat} {a b : Rat} (h1 : Sz i a) (h2 : Sz j b) : Sz (i + j + 1) (a + b) := by
  rw [Rat.add_def']
  have m1 := mul_lt_pow h1.n h2.d
  have m2 := mul_lt_pow h2.n h1.d
  have m3 := mul_lt_pow h1.d h2.d
  have e : (2 : Nat) ^ (i + j + 1) = 2 ^ (i + j) + 2 ^ (i + j) := by rw [Nat.pow_succ]; omega
  have e2 : j + i = i + j := by omega
  rw [e2] at m2
  refine sz_mk ?_ ?_ (by omega)
  · rw [e]
    refine Nat.lt_of_le_of_lt (Int.natAbs_add_le _ _) ?_
    rw [Int.natAbs_mul, Int.natAbs_mul, Int.natAbs_natCast, Int.natAbs_natCast]
    exact Nat.add_lt_add m1 m2
  · rw [e]; exact Nat.lt_of_lt_of_le m3 (Nat.le_add_right _ _)
theorem den_natAbs (r : Rat) : (((r.den : Nat) : Int)).natAbs = r.den := Int.natAbs_natCast _
theorem bits_nd {i j : Nat} {a b : Rat} (h1 : Sz i a) (h2 : Sz j b) (h : i + j ≤ 100000000) : bits2 a.num ((b.den : Nat) : Int) = true := bits2_of h1.n (by rw [den_natAbs]; exact h2.d) (by omega)
theorem bits_nn {i j : Nat} {a b : Rat} (h1 : Sz i a) (h2 : Sz j b) (h : i + j ≤ 100000000) : bits2 a.num b.num = true := bits2_of h1.n h2.n (by omega)
theorem bits_dd {i j : Nat} {a b : Rat} (h1 : Sz i a) (h2 : Sz j b) (h : i + j ≤ 100000000) : bits2 ((a.den : Nat) : Int) ((b.den : Nat) : Int) = true := bits2_of (by rw [den_natAbs]; exact h1.d) (by rw [den_natAbs]; exact h2.d) (by omega)
theorem r0 (a : Rat) : ixA (eRat.en a) (.int 0) = some (.int a.num) := rfl
theorem r1 (a : Rat) : ixA (eRat.en a) (.int 1) = some (.int ((a.den : Nat) : Int)) := rfl
theorem dd_ne (a b : Rat) : a.den * b.den ≠ 0 := Nat.mul_ne_zero a.den_nz b.den_nz
theorem rat_en {r : Rat} {n : Int} {d : Nat} (h1 : r.num = n) (h2 : r.den = d) : eRat.en r = .tup [.int n, .int ((d : Nat) : Int)] := by subst h1; subst h2; rfl
theorem mkRat_one (n : Int) : (mkRat n 1).num = n ∧ (mkRat n 1).den = 1 := by
  rw [mkRat_num' n (by decide), mkRat_den' n (by decide), Nat.gcd_one_right]
  exact ⟨by simp, rfl⟩
theorem add_whole {a b : Rat} (ha : a.den = 1) (hb : b.den = 1) : eRat.en (a + b) = .tup [.int (a.num + b.num), .int 1] := by
  have e : a + b = mkRat (a.num + b.num) 1 := by rw [Rat.add_def', ha, hb]; simp
  rw [e]
  exact rat_en (mkRat_one _).1 (mkRat_one _).2
theorem mul_whole {a b : Rat} (ha : a.den = 1) (hb : b.den = 1) : eRat.en (a * b) = .tup [.int (a.num * b.num), .int 1] := by
  have e : a * b = mkRat (a.num * b.num) 1 := by rw [Rat.mul_def', ha, hb]
  rw [e]
  exact rat_en (mkRat_one _).1 (mkRat_one _).2
theorem plus_ok {i j : Nat} {a b : Rat} (h1 : Sz i a) (h2 : Sz j b) (h : i + j ≤ 100000000) : m_plus [eRat.en a, eRat.en b] = .ok (eRat.en (a + b), .non) := by
  have e := lowest_ok (a.num * ((b.den : Nat) : Int) + b.num * ((a.den : Nat) : Int)) (dd_ne a b)
  rw [← Rat.add_def', Int.natCast_mul] at e
  have b1 := bits_nd h1 h2 h
  have b2 := bits_nd h2 h1 (by omega)
  have b3 := bits_dd h1 h2 h
  by_cases ha : a.den = 1
  · have ha' : ((a.den : Nat) : Int) = 1 := by omega
    by_cases hb : b.den = 1
    · have hb' : ((b.den : Nat) : Int) = 1 := by omega
      rw [add_whole ha hb]
      simp (disch := first | assumption | decide | omega) only [m_plus, b_plus, runF, m0, sSeq, sSet, sIf, sRet, sRetN, sExpr, sSkip_ok, sSetA, sSetIx, sFor, sPar, sBind, sAug, eVar, eCon_ok, eOp2, eOp1, eCall, eCallM, eCallT, eTup, eLst, eArg, eIf, tVal, tNotF, tAndF, tOrF, eB, eAndF, eOrF, eNotF, eIxA, eIxO, eCatO, ixA_lst, ixA_tup, ixA_scr, eDNew, eDGet, eDGetO, eDPop, eSortK, eMM, aHoleQ, aHole, aNil_ok, aCons, oNone_ok, oSome, eSlice, eSliceL, iSeqA, iSeq, iRange, iArg, ePeek, tPeek, eOwnM, tYes_ok, bind_ok, bind_exc, bind_stuck, of_some, flatD, SW.gName, List.getD_cons_zero, List.getD_cons_succ, List.set_cons_zero, List.set_cons_succ, List.map_cons, List.map_nil, List.length_cons, List.length_nil, List.cons_append, List.nil_append, List.replicate, Nat.reduceAdd, Nat.reduceSub, addD_int, subD_int, negD_int, repD_int, modD_int, fdivD_int, ltA_int, leA_int, gtA_int, geA_int, eqD_int, neD_int, pow_10_18, pow_10_60, r0, r1, decide_eq_true ha', decide_eq_true hb', if_true]
    · have hb' : ¬ ((b.den : Nat) : Int) = 1 := by omega
      simp (disch := first | assumption | decide | omega) only [m_plus, b_plus, runF, m0, sSeq, sSet, sIf, sRet, sRetN, sExpr, sSkip_ok, sSetA, sSetIx, sFor, sPar, sBind, sAug, eVar, eCon_ok, eOp2, eOp1, eCall, eCallM, eCallT, eTup, eLst, eArg, eIf, tVal, tNotF, tAndF, tOrF, eB, eAndF, eOrF, eNotF, eIxA, eIxO, eCatO, ixA_lst, ixA_tup, ixA_scr, eDNew, eDGet, eDGetO, eDPop, eSortK, eMM, aHoleQ, aHole, aNil_ok, aCons, oNone_ok, oSome, eSlice, eSliceL, iSeqA, iSeq, iRange, iArg, ePeek, tPeek, eOwnM, tYes_ok, bind_ok, bind_exc, bind_stuck, of_some, flatD, SW.gName, List.getD_cons_zero, List.getD_cons_succ, List.set_cons_zero, List.set_cons_succ, List.map_cons, List.map_nil, List.length_cons, List.length_nil, List.cons_append, List.nil_append, List.replicate, Nat.reduceAdd, Nat.reduceSub, addD_int, subD_int, negD_int, repD_int, modD_int, fdivD_int, ltA_int, leA_int, gtA_int, geA_int, eqD_int, neD_int, pow_10_18, pow_10_60, r0, r1, decide_eq_true ha', decide_eq_false hb', if_true, Bool.false_eq_true, if_false, e]
  · have ha' : ¬ ((a.den : Nat) : Int) = 1 := by omega
    simp (disch := first | assumption | decide | omega) only [m_plus, b_plus, runF, m0, sSeq, sSet, sIf, sRet, sRetN, sExpr, sSkip_ok, sSetA, sSetIx, sFor, sPar, sBind, sAug, eVar, eCon_ok, eOp2, eOp1, eCall, eCallM, eCallT, eTup, eLst, eArg, eIf, tVal, tNotF, tAndF, tOrF, eB, eAndF, eOrF, eNotF, eIxA, eIxO, eCatO, ixA_lst, ixA_tup, ixA_scr, eDNew, eDGet, eDGetO, eDPop, eSortK, eMM, aHoleQ, aHole, aNil_ok, aCons, oNone_ok, oSome, eSlice, eSliceL, iSeqA, iSeq, iRange, iArg, ePeek, tPeek, eOwnM, tYes_ok, bind_ok, bind_exc, bind_stuck, of_some, flatD, SW.gName, List.getD_cons_zero, List.getD_cons_succ, List.set_cons_zero, List.set_cons_succ, List.map_cons, List.map_nil, List.length_cons, List.length_nil, List.cons_append, List.nil_append, List.replicate, Nat.reduceAdd, Nat.reduceSub, addD_int, subD_int, negD_int, repD_int, modD_int, fdivD_int, ltA_int, leA_int, gtA_int, geA_int, eqD_int, neD_int, pow_10_18, pow_10_60, r0, r1, decide_eq_false ha', Bool.false_eq_true, if_false, e]
theorem times_ok {i j : Nat} {a b : Rat} (h1 : Sz i a) (h2 : Sz j b) (h : i + j ≤ 100000000) : m_times [eRat.en a, eRat.en b] = .ok (eRat.en (a * b), .non) := by
  have e := lowest_ok (a.num * b.num) (dd_ne a b)
  rw [← Rat.mul_def', Int.natCast_mul] at e
  have b1 := bits_nn h1 h2 h
  have b3 := bits_dd h1 h2 h
  by_cases ha : a.den = 1
  · have ha' : ((a.den : Nat) : Int) = 1 := by omega
    by_cases hb : b.den = 1
    · have hb' : ((b.den : Nat) : Int) = 1 := by omega
      rw [mul_whole ha hb]
      simp (disch := first | assumption | decide | omega) only [m_times, b_times, runF, m0, sSeq, sSet, sIf, sRet, sRetN, sExpr, sSkip_ok, sSetA, sSetIx, sFor, sPar, sBind, sAug, eVar, eCon_ok, eOp2, eOp1, eCall, eCallM, eCallT, eTup, eLst, eArg, eIf, tVal, tNotF, tAndF, tOrF, eB, eAndF, eOrF, eNotF, eIxA, eIxO, eCatO, ixA_lst, ixA_tup, ixA_scr, eDNew, eDGet, eDGetO, eDPop, eSortK, eMM, aHoleQ, aHole, aNil_ok, aCons, oNone_ok, oSome, eSlice, eSliceL, iSeqA, iSeq, iRange, iArg, ePeek, tPeek, eOwnM, tYes_ok, bind_ok, bind_exc, bind_stuck, of_some, flatD, SW.gName, List.getD_cons_zero, List.getD_cons_succ, List.set_cons_zero, List.set_cons_succ, List.map_cons, List.map_nil, List.length_cons, List.length_nil, List.cons_append, List.nil_append, List.replicate, Nat.reduceAdd, Nat.reduceSub, addD_int, subD_int, negD_int, repD_int, modD_int, fdivD_int, ltA_int, leA_int, gtA_int, geA_int, eqD_int, neD_int, pow_10_18, pow_10_60, r0, r1, decide_eq_true ha', decide_eq_true hb', if_true]
    · have hb' : ¬ ((b.den : Nat) : Int) = 1 := by omega
      simp (disch := first | assumption | decide | omega) only [m_times, b_times, runF, m0, sSeq, sSet, sIf, sRet, sRetN, sExpr, sSkip_ok, sSetA, sSetIx, sFor, sPar, sBind, sAug, eVar, eCon_ok, eOp2, eOp1, eCall, eCallM, eCallT, eTup, eLst, eArg, eIf, tVal, tNotF, tAndF, tOrF, eB, eAndF, eOrF, eNotF, eIxA, eIxO, eCatO, ixA_lst, ixA_tup, ixA_scr, eDNew, eDGet, eDGetO, eDPop, eSortK, eMM, aHoleQ, aHole, aNil_ok, aCons, oNone_ok, oSome, eSlice, eSliceL, iSeqA, iSeq, iRange, iArg, ePeek, tPeek, eOwnM, tYes_ok, bind_ok, bind_exc, bind_stuck, of_some, flatD, SW.gName, List.getD_cons_zero, List.getD_cons_succ, List.set_cons_zero, List.set_cons_succ, List.map_cons, List.map_nil, List.length_cons, List.length_nil, List.cons_append, List.nil_append, List.replicate, Nat.reduceAdd, Nat.reduceSub, addD_int, subD_int, negD_int, repD_int, modD_int, fdivD_int, ltA_int, leA_int, gtA_int, geA_int, eqD_int, neD_int, pow_10_18, pow_10_60, r0, r1, decide_eq_true ha', decide_eq_false hb', if_true, Bool.false_eq_true, if_false, e]
  · have ha' : ¬ ((a.den : Nat) : Int) = 1 := by omega
    simp (disch := first | assumption | decide | omega) only [m_times, b_times, runF, m0, sSeq, sSet, sIf, sRet, sRetN, sExpr, sSkip_ok, sSetA, sSetIx, sFor, sPar, sBind, sAug, eVar, eCon_ok, eOp2, eOp1, eCall, eCallM, eCallT, eTup, eLst, eArg, eIf, tVal, tNotF, tAndF, tOrF, eB, eAndF, eOrF, eNotF, eIxA, eIxO, eCatO, ixA_lst, ixA_tup, ixA_scr, eDNew, eDGet, eDGetO, eDPop, eSortK, eMM, aHoleQ, aHole, aNil_ok, aCons, oNone_ok, oSome, eSlice, eSliceL, iSeqA, iSeq, iRange, iArg, ePeek, tPeek, eOwnM, tYes_ok, bind_ok, bind_exc, bind_stuck, of_some, flatD, SW.gName, List.getD_cons_zero, List.getD_cons_succ, List.set_cons_zero, List.set_cons_succ, List.map_cons, List.map_nil, List.length_cons, List.length_nil, List.cons_append, List.nil_append, List.replicate, Nat.reduceAdd, Nat.reduceSub, addD_int, subD_int, negD_int, repD_int, modD_int, fdivD_int, ltA_int, leA_int, gtA_int, geA_int, eqD_int, neD_int, pow_10_18, pow_10_60, r0, r1, decide_eq_false ha', Bool.false_eq_true, if_false, e]

/-! fractions of the law; what is a number -/
theorem is_whole_ok (i : Int) : m_is_whole [.int i] = .ok (.bl true, .non) := rfl
theorem gcd_loop2 : ∀ (n a b : Nat) (x y : Option D), b < n → whileL (tVal (eOp2 neD (eVar 3) (eCon (.int 0)))) (sPar 2 3 (aCons (eVar 3) (aCons (eOp2 modD (eVar 2) (eVar 3)) aNil))) n [x, y, some (.int ((a : Nat) : Int)), some (.int ((b : Nat) : Int))] = .ok (.nx [x, y, some (.int ((Nat.gcd a b : Nat) : Int)), some (.int 0)])
  | 0, a, b, x, y, h => by omega
  | n + 1, a, b, x, y, h => by
    by_cases hb : b = 0
    · subst hb
      unfold whileL
      have d0 : ((0 : Nat) : Int) = 0 := rfl
      simp (disch := first | assumption | decide | omega) only [runF, m0, sSeq, sSet, sIf, sRet, sRetN, sExpr, sSkip_ok, sSetA, sSetIx, sFor, sPar, sBind, sAug, eVar, eCon_ok, eOp2, eOp1, eCall, eCallM, eCallT, eTup, eLst, eArg, eIf, tVal, tNotF, tAndF, tOrF, eB, eAndF, eOrF, eNotF, eIxA, eIxO, eCatO, ixA_lst, ixA_tup, ixA_scr, eDNew, eDGet, eDGetO, eDPop, eSortK, eMM, aHoleQ, aHole, aNil_ok, aCons, oNone_ok, oSome, eSlice, eSliceL, iSeqA, iSeq, iRange, iArg, ePeek, tPeek, eOwnM, tYes_ok, bind_ok, bind_exc, bind_stuck, of_some, flatD, SW.gName, List.getD_cons_zero, List.getD_cons_succ, List.set_cons_zero, List.set_cons_succ, List.map_cons, List.map_nil, List.length_cons, List.length_nil, List.cons_append, List.nil_append, List.replicate, Nat.reduceAdd, Nat.reduceSub, addD_int, subD_int, negD_int, repD_int, modD_int, fdivD_int, ltA_int, leA_int, gtA_int, geA_int, eqD_int, neD_int, pow_10_18, pow_10_60, decide_eq_true d0, Bool.not_true, Bool.false_eq_true, if_false, Nat.gcd_zero_right]
      rfl
    · have d0 : ¬ ((b : Nat) : Int) = 0 := by omega
      have dp : (0 : Int) < ((b : Nat) : Int) := by omega
      have hm : a % b < b := Nat.mod_lt _ (by omega)
      have ih := gcd_loop2 n b (a % b) x y (by omega)
      have eg : Nat.gcd b (a % b) = Nat.gcd a b := by rw [Nat.gcd_comm a b, Nat.gcd_rec b a, Nat.gcd_comm]
      have em : ((a : Nat) : Int) % ((b : Nat) : Int) = ((a % b : Nat) : Int) := (Int.natCast_emod a b).symm
      rw [eg] at ih
      unfold whileL
      simp (disch := first | assumption | decide | omega) only [tVal, eOp2, eVar, eCon_ok, bind_ok, of_some, neD_int, List.getD_cons_zero, List.getD_cons_succ, decide_eq_false d0, Bool.not_false, if_true, sPar, aCons, aNil_ok, modD_int dp, em, List.set_cons_zero, List.set_cons_succ]
      exact ih
theorem law_low_ok (t : Int) {d : Nat} (hd : d ≠ 0) : m__law_low [.int t, .int ((d : Nat) : Int)] = .ok (eRat.en (mkRat t d), .non) := by
  have e := gcd_loop2 (d + 1) t.natAbs d (some (.int t)) (some (.int ((d : Nat) : Int))) (by omega)
  have ef : fuelInt 3 [some (.int t), some (.int ((d : Nat) : Int)), some (.int ((t.natAbs : Nat) : Int)), some (.int ((d : Nat) : Int))] = d + 1 := by
    show ((d : Nat) : Int).natAbs + 1 = _
    rw [Int.natAbs_natCast]
  have g0 : 0 < Nat.gcd t.natAbs d := Nat.gcd_pos_of_pos_right _ (by omega)
  have gl : Nat.gcd t.natAbs d ≤ d := Nat.le_of_dvd (by omega) (Nat.gcd_dvd_right _ _)
  have g1 : (0 : Int) < ((Nat.gcd t.natAbs d : Nat) : Int) := by omega
  have f1 := fdivD_int (i := t) g1
  have f2 := fdivD_int (i := ((d : Nat) : Int)) g1
  have e2 : ((d : Nat) : Int) / ((Nat.gcd t.natAbs d : Nat) : Int) = ((d / Nat.gcd t.natAbs d : Nat) : Int) := (Int.natCast_ediv _ _).symm
  rw [e2] at f2
  show _ = Out.ok (D.tup [.int (mkRat t d).num, .int (((mkRat t d).den : Nat) : Int)], _)
  rw [mkRat_num' t hd, mkRat_den' t hd]
  simp (disch := first | assumption | decide | omega) only [m__law_low, b__law_low, runF, m0, sSeq, sSet, sIf, sRet, sRetN, sExpr, sSkip_ok, sSetA, sSetIx, sFor, sPar, sBind, sAug, eVar, eCon_ok, eOp2, eOp1, eCall, eCallM, eCallT, eTup, eLst, eArg, eIf, tVal, tNotF, tAndF, tOrF, eB, eAndF, eOrF, eNotF, eIxA, eIxO, eCatO, ixA_lst, ixA_tup, ixA_scr, eDNew, eDGet, eDGetO, eDPop, eSortK, eMM, aHoleQ, aHole, aNil_ok, aCons, oNone_ok, oSome, eSlice, eSliceL, iSeqA, iSeq, iRange, iArg, ePeek, tPeek, eOwnM, tYes_ok, bind_ok, bind_exc, bind_stuck, of_some, flatD, SW.gName, List.getD_cons_zero, List.getD_cons_succ, List.set_cons_zero, List.set_cons_succ, List.map_cons, List.map_nil, List.length_cons, List.length_nil, List.cons_append, List.nil_append, List.replicate, Nat.reduceAdd, Nat.reduceSub, addD_int, subD_int, negD_int, repD_int, modD_int, fdivD_int, ltA_int, leA_int, gtA_int, geA_int, eqD_int, neD_int, pow_10_18, pow_10_60, absD_int, sWhile, ef]
  rw [e]
  simp (disch := first | assumption | decide | omega) only [runF, m0, sSeq, sSet, sIf, sRet, sRetN, sExpr, sSkip_ok, sSetA, sSetIx, sFor, sPar, sBind, sAug, eVar, eCon_ok, eOp2, eOp1, eCall, eCallM, eCallT, eTup, eLst, eArg, eIf, tVal, tNotF, tAndF, tOrF, eB, eAndF, eOrF, eNotF, eIxA, eIxO, eCatO, ixA_lst, ixA_tup, ixA_scr, eDNew, eDGet, eDGetO, eDPop, eSortK, eMM, aHoleQ, aHole, aNil_ok, aCons, oNone_ok, oSome, eSlice, eSliceL, iSeqA, iSeq, iRange, iArg, ePeek, tPeek, eOwnM, tYes_ok, bind_ok, bind_exc, bind_stuck, of_some, flatD, SW.gName, List.getD_cons_zero, List.getD_cons_succ, List.set_cons_zero, List.set_cons_succ, List.map_cons, List.map_nil, List.length_cons, List.length_nil, List.cons_append, List.nil_append, List.replicate, Nat.reduceAdd, Nat.reduceSub, addD_int, subD_int, negD_int, repD_int, modD_int, fdivD_int, ltA_int, leA_int, gtA_int, geA_int, eqD_int, neD_int, pow_10_18, pow_10_60, f1, f2]
theorem law_plus_ok {i j : Nat} {a b : Rat} (h1 : Sz i a) (h2 : Sz j b) (h : i + j ≤ 100000000) : m__law_plus [eRat.en a, eRat.en b] = .ok (eRat.en (a + b), .non) := by
  have e := law_low_ok (a.num * ((b.den : Nat) : Int) + b.num * ((a.den : Nat) : Int)) (dd_ne a b)
  rw [← Rat.add_def', Int.natCast_mul] at e
  have b1 := bits_nd h1 h2 h
  have b2 := bits_nd h2 h1 (by omega)
  have b3 := bits_dd h1 h2 h
  simp (disch := first | assumption | decide | omega) only [m__law_plus, b__law_plus, runF, m0, sSeq, sSet, sIf, sRet, sRetN, sExpr, sSkip_ok, sSetA, sSetIx, sFor, sPar, sBind, sAug, eVar, eCon_ok, eOp2, eOp1, eCall, eCallM, eCallT, eTup, eLst, eArg, eIf, tVal, tNotF, tAndF, tOrF, eB, eAndF, eOrF, eNotF, eIxA, eIxO, eCatO, ixA_lst, ixA_tup, ixA_scr, eDNew, eDGet, eDGetO, eDPop, eSortK, eMM, aHoleQ, aHole, aNil_ok, aCons, oNone_ok, oSome, eSlice, eSliceL, iSeqA, iSeq, iRange, iArg, ePeek, tPeek, eOwnM, tYes_ok, bind_ok, bind_exc, bind_stuck, of_some, flatD, SW.gName, List.getD_cons_zero, List.getD_cons_succ, List.set_cons_zero, List.set_cons_succ, List.map_cons, List.map_nil, List.length_cons, List.length_nil, List.cons_append, List.nil_append, List.replicate, Nat.reduceAdd, Nat.reduceSub, addD_int, subD_int, negD_int, repD_int, modD_int, fdivD_int, ltA_int, leA_int, gtA_int, geA_int, eqD_int, neD_int, pow_10_18, pow_10_60, r0, r1, e]
theorem law_by_ok {i j : Nat} {a b : Rat} (h1 : Sz i a) (h2 : Sz j b) (h : i + j ≤ 100000000) : m__law_by [eRat.en a, eRat.en b] = .ok (eRat.en (a * b), .non) := by
  have e := law_low_ok (a.num * b.num) (dd_ne a b)
  rw [← Rat.mul_def', Int.natCast_mul] at e
  have b1 := bits_nn h1 h2 h
  have b3 := bits_dd h1 h2 h
  simp (disch := first | assumption | decide | omega) only [m__law_by, b__law_by, runF, m0, sSeq, sSet, sIf, sRet, sRetN, sExpr, sSkip_ok, sSetA, sSetIx, sFor, sPar, sBind, sAug, eVar, eCon_ok, eOp2, eOp1, eCall, eCallM, eCallT, eTup, eLst, eArg, eIf, tVal, tNotF, tAndF, tOrF, eB, eAndF, eOrF, eNotF, eIxA, eIxO, eCatO, ixA_lst, ixA_tup, ixA_scr, eDNew, eDGet, eDGetO, eDPop, eSortK, eMM, aHoleQ, aHole, aNil_ok, aCons, oNone_ok, oSome, eSlice, eSliceL, iSeqA, iSeq, iRange, iArg, ePeek, tPeek, eOwnM, tYes_ok, bind_ok, bind_exc, bind_stuck, of_some, flatD, SW.gName, List.getD_cons_zero, List.getD_cons_succ, List.set_cons_zero, List.set_cons_succ, List.map_cons, List.map_nil, List.length_cons, List.length_nil, List.cons_append, List.nil_append, List.replicate, Nat.reduceAdd, Nat.reduceSub, addD_int, subD_int, negD_int, repD_int, modD_int, fdivD_int, ltA_int, leA_int, gtA_int, geA_int, eqD_int, neD_int, pow_10_18, pow_10_60, r0, r1, e]

theorem isi_rat (r : Rat) : isiD [eRat.en r, .ty .tuple] = some (.bl true) := rfl
theorem len_rat (r : Rat) : lenA [eRat.en r] = some (.int 2) := rfl
theorem is_number_ok (r : Rat) : m_is_number [eRat.en r] = .ok (.bl true, .non) := by
  have e := divisor_ok r.num ((r.den : Nat) : Int)
  rw [Int.natAbs_natCast, r.reduced] at e
  have c1 : ((1 : Nat) : Int) = 1 := rfl
  have d1 : (1 : Int) ≤ ((r.den : Nat) : Int) := by have := den_pos' r; omega
  have d2 : (2 : Int) = 2 := rfl
  simp (disch := first | assumption | decide | omega) only [m_is_number, b_is_number, runF, m0, sSeq, sSet, sIf, sRet, sRetN, sExpr, sSkip_ok, sSetA, sSetIx, sFor, sPar, sBind, sAug, eVar, eCon_ok, eOp2, eOp1, eCall, eCallM, eCallT, eTup, eLst, eArg, eIf, tVal, tNotF, tAndF, tOrF, eB, eAndF, eOrF, eNotF, eIxA, eIxO, eCatO, ixA_lst, ixA_tup, ixA_scr, eDNew, eDGet, eDGetO, eDPop, eSortK, eMM, aHoleQ, aHole, aNil_ok, aCons, oNone_ok, oSome, eSlice, eSliceL, iSeqA, iSeq, iRange, iArg, ePeek, tPeek, eOwnM, tYes_ok, bind_ok, bind_exc, bind_stuck, of_some, flatD, SW.gName, List.getD_cons_zero, List.getD_cons_succ, List.set_cons_zero, List.set_cons_succ, List.map_cons, List.map_nil, List.length_cons, List.length_nil, List.cons_append, List.nil_append, List.replicate, Nat.reduceAdd, Nat.reduceSub, addD_int, subD_int, negD_int, repD_int, modD_int, fdivD_int, ltA_int, leA_int, gtA_int, geA_int, eqD_int, neD_int, pow_10_18, pow_10_60, isi_rat, len_rat, decide_eq_true d2, decide_true, Bool.not_true, Bool.false_eq_true, if_false, r0, r1, is_whole_ok, decide_eq_true d1, e, decide_eq_true c1]
theorem neD_rat (a b : Rat) : neD (eRat.en a) (eRat.en b) = some (.bl (!decide (a = b))) := neD_enc eRat (by decide) a b


/-- a comprehension that draws -/
theorem compL_turn {α ι : Type} {f : ι → D} {en : α → D} {ρf : D → Rho} {vs : List Nat} {b : D → Rho → Option Rho} {fe : Rho → Out (D × Rho)} {Good : α → Prop} {c : Nat} (st : ∀ i n p, Ps (n + c) p → ∃ ρ1, b (f i) (wipeR (ρf p) vs) = some ρ1 ∧ ∃ v p' ρ3, fe ρ1 = .ok (en v, ρ3) ∧ backR vs (ρf p) ρ3 = ρf p' ∧ Good v ∧ Ps n p') :
    ∀ (l : List ι) (n : Nat) (p : D), Ps (n + l.length * c) p → ∃ (ws : List α) (p' : D), compL vs b tYesF fe (l.map f) (ρf p) = .ok (ws.map en, ρf p') ∧ ws.length = l.length ∧ (∀ v ∈ ws, Good v) ∧ Ps n p'
  | [], n, p, hp => ⟨[], p, rfl, rfl, (by simp), by simpa using hp⟩
  | i :: l, n, p, hp => by
    rw [List.length_cons, Nat.succ_mul] at hp
    obtain ⟨ρ1, e1, v, p1, ρ3, e2, e3, hv, hp1⟩ := st i (n + l.length * c) p (Ps.mono (by omega) hp)
    obtain ⟨ws, p', e4, hl, hg, hp'⟩ := compL_turn st l n p1 hp1
    refine ⟨v :: ws, p', ?_, by simp [hl], ?_, hp'⟩
    · rw [List.map_cons]
      unfold compL
      rw [e1]
      dsimp only [tYesF]
      rw [e2]
      dsimp only
      rw [e3, e4, bind_ok]
      rfl
    · intro x hx
      rcases List.mem_cons.mp hx with rfl | hx
      · exact hv
      · exact hg x hx

/-! sums of words: terms, order, bounds -/
abbrev eTerm : Enc (Wd × Rat) := ePair eWord eRat
abbrev eSum : Enc (List (Wd × Rat)) := eLstOf eTerm
theorem isi_w (w : Wd) : isiD [eWord.en w, .ty .tuple] = some (.bl true) := rfl
theorem len_w (w : Wd) : lenA [eWord.en w] = some (.int w.length) := by
  show some (D.int ((w.map D.int).length : Nat)) = _
  rw [List.length_map]
theorem items_w (w : Wd) : itemsA (eWord.en w) = some (w.map D.int) := rfl
theorem items_l (l : List D) : itemsA (.lst l) = some l := rfl
theorem isi_t (p : Wd × Rat) : isiD [eTerm.en p, .ty .tuple] = some (.bl true) := rfl
theorem len_t (p : Wd × Rat) : lenA [eTerm.en p] = some (.int 2) := rfl
theorem t0 (p : Wd × Rat) : ixA (eTerm.en p) (.int 0) = some (eWord.en p.1) := rfl
theorem t1 (p : Wd × Rat) : ixA (eTerm.en p) (.int 1) = some (eRat.en p.2) := rfl
theorem num_ne {q : Rat} (h : q ≠ 0) : ¬ q.num = 0 := fun z => h (Rat.num_eq_zero.mp z)
def WdOk (c : Nat) (w : Wd) : Prop := w.length ≤ 5 ∧ ∀ x ∈ w, 0 ≤ x ∧ x < (c : Int)
def rkE (w : Wd) : D := .tup [.int (w.length : Nat), eWord.en w]
theorem rank_ok (w : Wd) : m_rank [eWord.en w] = .ok (rkE w, .non) := by
  simp (disch := first | assumption | decide | omega) only [m_rank, b_rank, runF, m0, sSeq, sSet, sIf, sRet, sRetN, sExpr, sSkip_ok, sSetA, sSetIx, sFor, sPar, sBind, sAug, eVar, eCon_ok, eOp2, eOp1, eCall, eCallM, eCallT, eTup, eLst, eArg, eIf, tVal, tNotF, tAndF, tOrF, eB, eAndF, eOrF, eNotF, eIxA, eIxO, eCatO, ixA_lst, ixA_tup, ixA_scr, eDNew, eDGet, eDGetO, eDPop, eSortK, eMM, aHoleQ, aHole, aNil_ok, aCons, oNone_ok, oSome, eSlice, eSliceL, iSeqA, iSeq, iRange, iArg, ePeek, tPeek, eOwnM, tYes_ok, bind_ok, bind_exc, bind_stuck, of_some, flatD, SW.gName, List.getD_cons_zero, List.getD_cons_succ, List.set_cons_zero, List.set_cons_succ, List.map_cons, List.map_nil, List.length_cons, List.length_nil, List.cons_append, List.nil_append, List.replicate, Nat.reduceAdd, Nat.reduceSub, addD_int, subD_int, negD_int, repD_int, modD_int, fdivD_int, ltA_int, leA_int, gtA_int, geA_int, eqD_int, neD_int, pow_10_18, pow_10_60, len_w, rkE]
theorem rkE_py (w : Wd) : (rkE w).py = some (rkKey w) := by
  show (D.pyL [.int (w.length : Nat), eWord.en w]).map PyData.tuple = _
  have : D.pyL [.int (w.length : Nat), eWord.en w] = some [.int (w.length : Nat), eWord.py w] := by
    show (match D.py (.int (w.length : Nat)), D.pyL [eWord.en w] with
      | some p, some ps => some (p :: ps)
      | _, _ => none) = _
    have e2 : D.pyL [eWord.en w] = some [eWord.py w] := pyL_map eWord [w]
    rw [e2]
    rfl
  rw [this]
  rfl
theorem rk_alike (a b : Wd) : PySem.W.alike (rkKey a) (rkKey b) = true := by
  show PySem.W.alike (.tuple [.int (a.length : Nat), .tuple (a.map PyData.int)]) (.tuple [.int (b.length : Nat), .tuple (b.map PyData.int)]) = true
  simp only [PySem.W.alike, PySem.W.alikeAll, alike_ints, Bool.and_true]
theorem rk_depth (a : Wd) : (rkKey a).depth ≤ 2 := by
  show (PyData.tuple [.int (a.length : Nat), eWord.py a]).depth ≤ 2
  simp only [PyData.depth, PyData.depthAll]
  have : (eWord.py a).depth ≤ 1 := eWord.hdp a
  omega
theorem ge_rk (a b : Wd) : geA (rkE a) (rkE b) = some (.bl (!rkLt a b)) := by
  show geD (rkE a) (rkE b) = _
  unfold geD cmpP
  rw [rkE_py, rkE_py]
  dsimp only
  have : alOk (rkKey a) (rkKey b) = true := by
    unfold alOk
    rw [rk_alike, decide_eq_true (Nat.le_trans (rk_depth a) (by decide))]
    rfl
  rw [this, if_pos rfl, rkKey_lt]
/-! bounds of fractions: the bottom's multiple, the greatest -/
structure Bd (N M : Nat) (r : Rat) : Prop where
  d : r.den ∣ N
  n : r.num.natAbs ≤ M * r.den
theorem bd_zero (N M : Nat) : Bd N M 0 := ⟨⟨N, by simp⟩, by simp⟩
theorem Bd.mono {N M M' : Nat} {r : Rat} (h : Bd N M r) (hm : M ≤ M') : Bd N M' r := ⟨h.d, Nat.le_trans h.n (Nat.mul_le_mul_right _ hm)⟩
theorem bd_of {N M : Nat} {r : Rat} {t : Int} {d : Nat} (hd : d ≠ 0) (e : r = mkRat t d) (h1 : d ∣ N) (h2 : t.natAbs ≤ M * d) : Bd N M r := by
  subst e
  have g0 : 0 < Nat.gcd t.natAbs d := Nat.gcd_pos_of_pos_right _ (by omega)
  refine ⟨?_, ?_⟩
  · rw [mkRat_den' t hd]
    exact Nat.dvd_trans (Nat.div_dvd_of_dvd (Nat.gcd_dvd_right _ _)) h1
  · rw [mkRat_num' t hd, mkRat_den' t hd]
    obtain ⟨a, ha⟩ := Nat.gcd_dvd_left t.natAbs d
    obtain ⟨b, hb⟩ := Nat.gcd_dvd_right t.natAbs d
    have e1 : d / Nat.gcd t.natAbs d = b := Nat.div_eq_of_eq_mul_right g0 hb
    have e2 : (t / ((Nat.gcd t.natAbs d : Nat) : Int)).natAbs = a := by
      rw [Int.natAbs_ediv_of_dvd (Int.ofNat_dvd_left.mpr (Nat.gcd_dvd_left _ _)), Int.natAbs_natCast]
      exact Nat.div_eq_of_eq_mul_right g0 ha
    rw [e1, e2]
    rw [ha] at h2
    have h3 : Nat.gcd t.natAbs d * a ≤ M * (Nat.gcd t.natAbs d * b) := by rw [← hb]; exact h2
    have h4 : Nat.gcd t.natAbs d * a ≤ Nat.gcd t.natAbs d * (M * b) := by rw [Nat.mul_left_comm] at h3; exact h3
    exact Nat.le_of_mul_le_mul_left h4 g0
theorem Bd.mul {N M N' M' : Nat} {a b : Rat} (h1 : Bd N M a) (h2 : Bd N' M' b) : Bd (N * N') (M * M') (a * b) := by
  refine bd_of (dd_ne a b) (Rat.mul_def' a b) (Nat.mul_dvd_mul h1.d h2.d) ?_
  rw [Int.natAbs_mul]
  have := Nat.mul_le_mul h1.n h2.n
  calc a.num.natAbs * b.num.natAbs ≤ (M * a.den) * (M' * b.den) := this
    _ = M * M' * (a.den * b.den) := by rw [Nat.mul_mul_mul_comm]
theorem Bd.add {N M M' : Nat} {a b : Rat} (hN : N ≠ 0) (h1 : Bd N M a) (h2 : Bd N M' b) : Bd N (M + M') (a + b) := by
  obtain ⟨x, hx⟩ := h1.d
  obtain ⟨y, hy⟩ := h2.d
  have ha := den_pos' a
  have hb := den_pos' b
  have e : a + b = mkRat (a.num * x + b.num * y) N := by
    have ea : a = mkRat (a.num * x) N := by
      conv => lhs; rw [← Rat.mkRat_self a]
      rw [hx, Rat.mkRat_eq_iff (by omega) (by rw [← hx]; exact hN)]
      rw [Int.natCast_mul, ← Int.mul_assoc, Int.mul_right_comm]
    have eb : b = mkRat (b.num * y) N := by
      conv => lhs; rw [← Rat.mkRat_self b]
      rw [hy, Rat.mkRat_eq_iff (by omega) (by rw [← hy]; exact hN)]
      rw [Int.natCast_mul, ← Int.mul_assoc, Int.mul_right_comm]
    conv => lhs; rw [ea, eb]
    rw [Rat.mkRat_add_mkRat _ _ hN hN, ← Int.add_mul, Rat.mkRat_mul_right hN]
  refine bd_of hN e (Nat.dvd_refl _) ?_
  refine Nat.le_trans (Int.natAbs_add_le _ _) ?_
  rw [Int.natAbs_mul, Int.natAbs_mul, Int.natAbs_natCast, Int.natAbs_natCast, Nat.add_mul]
  have q1 := Nat.mul_le_mul_right x h1.n
  have q2 := Nat.mul_le_mul_right y h2.n
  rw [Nat.mul_assoc, ← hx] at q1
  rw [Nat.mul_assoc, ← hy] at q2
  omega
theorem Bd.lift {N N' M : Nat} {a : Rat} (h : Bd N M a) (hd : N ∣ N') : Bd N' M a := ⟨Nat.dvd_trans h.d hd, h.n⟩
theorem Bd.sz {N M k : Nat} {r : Rat} (h : Bd N M r) (hN : N ≠ 0) (h1 : N < 2 ^ k) (h2 : M * N < 2 ^ k) : Sz k r := by
  have hd := Nat.le_of_dvd (by omega) h.d
  exact ⟨Nat.lt_of_le_of_lt (Nat.le_trans h.n (Nat.mul_le_mul_left _ hd)) h2, Nat.lt_of_le_of_lt hd h1⟩

/-! sums that are handed in are looked at -/
theorem is_word_ok {c : Nat} {w : Wd} (h : WdOk c w) : m_is_word [eWord.en w, .int c] = .ok (.bl true, .non) := by
  obtain ⟨ρ', e, y, rfl⟩ := forL_fold (b := gName 2) (g := (sIf (tOrF (tNotF (tVal (eCall m_is_whole (aCons (eVar 2) aNil)))) (tOrF (tVal (eOp2 ltA (eVar 2) (eCon (.int 0)))) (tVal (eOp2 geA (eVar 2) (eVar 1))))) (sRet (eCon (.bl false))) sSkip)) (f := D.int) (σ := Unit) (step := fun s _ => s) (St := fun _ ρ => ∃ y, ρ = [some (eWord.en w), some (.int c), y]) w () [some (eWord.en w), some (.int c), none] ⟨_, rfl⟩ (by
    rintro x hx _ ρ ⟨y, rfl⟩
    refine ⟨_, [some (eWord.en w), some (.int c), some (.int x)], rfl, ?_, _, rfl⟩
    obtain ⟨h0, h1⟩ := h.2 x hx
    have d0 : ¬ x < 0 := by omega
    have d1 : ¬ ((c : Nat) : Int) ≤ x := by omega
    simp (disch := first | assumption | decide | omega) only [runF, m0, sSeq, sSet, sIf, sRet, sRetN, sExpr, sSkip_ok, sSetA, sSetIx, sFor, sPar, sBind, sAug, eVar, eCon_ok, eOp2, eOp1, eCall, eCallM, eCallT, eTup, eLst, eArg, eIf, tVal, tNotF, tAndF, tOrF, eB, eAndF, eOrF, eNotF, eIxA, eIxO, eCatO, ixA_lst, ixA_tup, ixA_scr, eDNew, eDGet, eDGetO, eDPop, eSortK, eMM, aHoleQ, aHole, aNil_ok, aCons, oNone_ok, oSome, eSlice, eSliceL, iSeqA, iSeq, iRange, iArg, ePeek, tPeek, eOwnM, tYes_ok, bind_ok, bind_exc, bind_stuck, of_some, flatD, SW.gName, List.getD_cons_zero, List.getD_cons_succ, List.set_cons_zero, List.set_cons_succ, List.map_cons, List.map_nil, List.length_cons, List.length_nil, List.cons_append, List.nil_append, List.replicate, Nat.reduceAdd, Nat.reduceSub, addD_int, subD_int, negD_int, repD_int, modD_int, fdivD_int, ltA_int, leA_int, gtA_int, geA_int, eqD_int, neD_int, pow_10_18, pow_10_60, is_whole_ok, decide_eq_false d0, decide_eq_false d1, Bool.not_true, Bool.false_eq_true, if_false])
  have d2 : ¬ (5 : Int) < ((w.length : Nat) : Int) := by have := h.1; omega
  simp (disch := first | assumption | decide | omega) only [m_is_word, b_is_word, runF, m0, sSeq, sSet, sIf, sRet, sRetN, sExpr, sSkip_ok, sSetA, sSetIx, sFor, sPar, sBind, sAug, eVar, eCon_ok, eOp2, eOp1, eCall, eCallM, eCallT, eTup, eLst, eArg, eIf, tVal, tNotF, tAndF, tOrF, eB, eAndF, eOrF, eNotF, eIxA, eIxO, eCatO, ixA_lst, ixA_tup, ixA_scr, eDNew, eDGet, eDGetO, eDPop, eSortK, eMM, aHoleQ, aHole, aNil_ok, aCons, oNone_ok, oSome, eSlice, eSliceL, iSeqA, iSeq, iRange, iArg, ePeek, tPeek, eOwnM, tYes_ok, bind_ok, bind_exc, bind_stuck, of_some, flatD, SW.gName, List.getD_cons_zero, List.getD_cons_succ, List.set_cons_zero, List.set_cons_succ, List.map_cons, List.map_nil, List.length_cons, List.length_nil, List.cons_append, List.nil_append, List.replicate, Nat.reduceAdd, Nat.reduceSub, addD_int, subD_int, negD_int, repD_int, modD_int, fdivD_int, ltA_int, leA_int, gtA_int, geA_int, eqD_int, neD_int, pow_10_18, pow_10_60, k_MOST, isi_w, len_w, decide_eq_false d2, Bool.not_true, Bool.false_eq_true, if_false, items_w, e]
theorem is_term_ok {c : Nat} {p : Wd × Rat} (h : WdOk c p.1) (hq : p.2 ≠ 0) : m_is_term [eTerm.en p, .int c] = .ok (.bl true, .non) := by
  have e1 := is_word_ok h
  have e2 := is_number_ok p.2
  have d0 := num_ne hq
  simp (disch := first | assumption | decide | omega) only [m_is_term, b_is_term, runF, m0, sSeq, sSet, sIf, sRet, sRetN, sExpr, sSkip_ok, sSetA, sSetIx, sFor, sPar, sBind, sAug, eVar, eCon_ok, eOp2, eOp1, eCall, eCallM, eCallT, eTup, eLst, eArg, eIf, tVal, tNotF, tAndF, tOrF, eB, eAndF, eOrF, eNotF, eIxA, eIxO, eCatO, ixA_lst, ixA_tup, ixA_scr, eDNew, eDGet, eDGetO, eDPop, eSortK, eMM, aHoleQ, aHole, aNil_ok, aCons, oNone_ok, oSome, eSlice, eSliceL, iSeqA, iSeq, iRange, iArg, ePeek, tPeek, eOwnM, tYes_ok, bind_ok, bind_exc, bind_stuck, of_some, flatD, SW.gName, List.getD_cons_zero, List.getD_cons_succ, List.set_cons_zero, List.set_cons_succ, List.map_cons, List.map_nil, List.length_cons, List.length_nil, List.cons_append, List.nil_append, List.replicate, Nat.reduceAdd, Nat.reduceSub, addD_int, subD_int, negD_int, repD_int, modD_int, fdivD_int, ltA_int, leA_int, gtA_int, geA_int, eqD_int, neD_int, pow_10_18, pow_10_60, isi_t, len_t, t0, t1, r0, decide_true, decide_eq_false d0, Bool.not_true, Bool.not_false, Bool.false_eq_true, if_false, e1, e2]
/-- what a sum handed in keeps -/
structure SumOk (c : Nat) (l : SumT) : Prop where
  sm : Sm l
  wd : ∀ p ∈ l, WdOk c p.1
theorem enumD_map {α : Type} (f : α → D) (z : α) (l : List α) : enumD (l.map f) = (List.range l.length).map fun i => .tup [.int (i : Nat), f (l.getD i z)] := by
  unfold enumD
  rw [List.length_map]
  refine List.ext_getElem? fun i => ?_
  rw [List.getElem?_zipWith, List.getElem?_map, List.getElem?_map]
  by_cases h : i < l.length
  · rw [List.getElem?_range h, List.getElem?_eq_getElem h]
    show some (D.tup [.int (i : Nat), f l[i]]) = some (D.tup [.int (i : Nat), f (l.getD i z)])
    rw [List.getD_eq_getElem?_getD, List.getElem?_eq_getElem h]
    rfl
  · rw [List.getElem?_eq_none (by rw [List.length_range]; omega)]
    rfl
theorem ix_map {α : Type} (f : α → D) (l : List α) (z : α) {i : Nat} (h : i < l.length) : ixD (.lst (l.map f)) (.int ((i : Nat) : Int)) = some (f (l.getD i z)) := by
  show atI (l.map f) ((i : Nat) : Int) = _
  unfold atI ixN
  rw [List.length_map, if_pos (by omega), if_pos (by omega)]
  show (l.map f)[((i : Nat) : Int).toNat]? = _
  rw [Int.toNat_natCast, List.getElem?_map, List.getD_eq_getElem?_getD, List.getElem?_eq_getElem h]
  rfl
theorem rising_at {l : SumT} (h : Rising (l.map (·.1))) {i : Nat} (hi : i + 1 < l.length) (z : Wd × Rat) : rkLt (l.getD i z).1 (l.getD (i + 1) z).1 = true := by
  have q := (List.pairwise_iff_getElem.mp h) i (i + 1) (by rw [List.length_map]; omega) (by rw [List.length_map]; omega) (by omega)
  rw [List.getElem_map, List.getElem_map] at q
  rw [List.getD_eq_getElem?_getD, List.getD_eq_getElem?_getD, List.getElem?_eq_getElem (by omega : i < l.length), List.getElem?_eq_getElem hi]
  exact q
theorem check_sum_ok {c : Nat} {l : SumT} (h : SumOk c l) : m_check_sum [.int c, .lst (l.map eTerm.en)] = .ok (.non, .non) := by
  obtain ⟨ρ', e, y, z, rfl⟩ := forL_fold (b := (gTup 2 (gCons (gName 2) (gCons (gName 3) gNil)))) (g := ((sSeq (sIf (tNotF (tVal (eCall m_is_term (aCons (eVar 3) (aCons (eVar 0) aNil))))) sStuck sSkip) (sIf (tAndF (tVal (eOp2 gtA (eVar 2) (eCon (.int 0)))) (tVal (eOp2 geA (eCall m_rank (aCons (eOp2 ixA (eOp2 ixA (eVar 1) (eOp2 subD (eVar 2) (eCon (.int 1)))) (eCon (.int 0))) aNil)) (eCall m_rank (aCons (eOp2 ixA (eVar 3) (eCon (.int 0))) aNil))))) sStuck sSkip))))
    (f := fun i : Nat => D.tup [.int (i : Nat), eTerm.en (l.getD i ([], 0))]) (σ := Unit) (step := fun s _ => s) (St := fun _ ρ => ∃ y z, ρ = [some (.int c), some (.lst (l.map eTerm.en)), y, z]) (List.range l.length) () [some (.int c), some (.lst (l.map eTerm.en)), none, none] ⟨_, _, rfl⟩ (by
    rintro i hi _ ρ ⟨y, z, rfl⟩
    have hi := List.mem_range.mp hi
    have hm : l.getD i ([], 0) ∈ l := by
      rw [List.getD_eq_getElem?_getD, List.getElem?_eq_getElem hi]
      exact List.getElem_mem hi
    have e1 := is_term_ok (h.wd _ hm) (h.sm.nz _ hm)
    refine ⟨_, [some (.int c), some (.lst (l.map eTerm.en)), some (.int (i : Nat)), some (eTerm.en (l.getD i ([], 0)))], rfl, ?_, _, _, rfl⟩
    cases i with
    | zero =>
      have d0 : ¬ (0 : Int) < ((0 : Nat) : Int) := by decide
      simp (disch := first | assumption | decide | omega) only [runF, m0, sSeq, sSet, sIf, sRet, sRetN, sExpr, sSkip_ok, sSetA, sSetIx, sFor, sPar, sBind, sAug, eVar, eCon_ok, eOp2, eOp1, eCall, eCallM, eCallT, eTup, eLst, eArg, eIf, tVal, tNotF, tAndF, tOrF, eB, eAndF, eOrF, eNotF, eIxA, eIxO, eCatO, ixA_lst, ixA_tup, ixA_scr, eDNew, eDGet, eDGetO, eDPop, eSortK, eMM, aHoleQ, aHole, aNil_ok, aCons, oNone_ok, oSome, eSlice, eSliceL, iSeqA, iSeq, iRange, iArg, ePeek, tPeek, eOwnM, tYes_ok, bind_ok, bind_exc, bind_stuck, of_some, flatD, SW.gName, List.getD_cons_zero, List.getD_cons_succ, List.set_cons_zero, List.set_cons_succ, List.map_cons, List.map_nil, List.length_cons, List.length_nil, List.cons_append, List.nil_append, List.replicate, Nat.reduceAdd, Nat.reduceSub, addD_int, subD_int, negD_int, repD_int, modD_int, fdivD_int, ltA_int, leA_int, gtA_int, geA_int, eqD_int, neD_int, pow_10_18, pow_10_60, e1, decide_eq_false d0, Bool.not_true, Bool.false_eq_true, if_false]
    | succ i =>
      have d0 : (0 : Int) < ((i + 1 : Nat) : Int) := by omega
      have ei : ((i + 1 : Nat) : Int) - 1 = ((i : Nat) : Int) := by omega
      have x1 := ix_map eTerm.en l ([], 0) (i := i) (by omega)
      have g1 := ge_rk (l.getD i ([], 0)).1 (l.getD (i + 1) ([], 0)).1
      rw [rising_at h.sm.up hi] at g1
      simp (disch := first | assumption | decide | omega) only [runF, m0, sSeq, sSet, sIf, sRet, sRetN, sExpr, sSkip_ok, sSetA, sSetIx, sFor, sPar, sBind, sAug, eVar, eCon_ok, eOp2, eOp1, eCall, eCallM, eCallT, eTup, eLst, eArg, eIf, tVal, tNotF, tAndF, tOrF, eB, eAndF, eOrF, eNotF, eIxA, eIxO, eCatO, ixA_lst, ixA_tup, ixA_scr, eDNew, eDGet, eDGetO, eDPop, eSortK, eMM, aHoleQ, aHole, aNil_ok, aCons, oNone_ok, oSome, eSlice, eSliceL, iSeqA, iSeq, iRange, iArg, ePeek, tPeek, eOwnM, tYes_ok, bind_ok, bind_exc, bind_stuck, of_some, flatD, SW.gName, List.getD_cons_zero, List.getD_cons_succ, List.set_cons_zero, List.set_cons_succ, List.map_cons, List.map_nil, List.length_cons, List.length_nil, List.cons_append, List.nil_append, List.replicate, Nat.reduceAdd, Nat.reduceSub, addD_int, subD_int, negD_int, repD_int, modD_int, fdivD_int, ltA_int, leA_int, gtA_int, geA_int, eqD_int, neD_int, pow_10_18, pow_10_60, e1, decide_eq_true d0, ei, x1, t0, rank_ok, g1, Bool.not_true, Bool.false_eq_true, if_false, if_true])
  have en := enumD_map eTerm.en ([], 0) l
  have ei : iEnum1 [.lst (l.map eTerm.en)] = some ((List.range l.length).map fun i => .tup [.int (i : Nat), eTerm.en (l.getD i ([], 0))]) := by
    show some (enumD (l.map eTerm.en)) = _
    rw [en]
  simp (disch := first | assumption | decide | omega) only [m_check_sum, b_check_sum, runF, m0, sSeq, sSet, sIf, sRet, sRetN, sExpr, sSkip_ok, sSetA, sSetIx, sFor, sPar, sBind, sAug, eVar, eCon_ok, eOp2, eOp1, eCall, eCallM, eCallT, eTup, eLst, eArg, eIf, tVal, tNotF, tAndF, tOrF, eB, eAndF, eOrF, eNotF, eIxA, eIxO, eCatO, ixA_lst, ixA_tup, ixA_scr, eDNew, eDGet, eDGetO, eDPop, eSortK, eMM, aHoleQ, aHole, aNil_ok, aCons, oNone_ok, oSome, eSlice, eSliceL, iSeqA, iSeq, iRange, iArg, ePeek, tPeek, eOwnM, tYes_ok, bind_ok, bind_exc, bind_stuck, of_some, flatD, SW.gName, List.getD_cons_zero, List.getD_cons_succ, List.set_cons_zero, List.set_cons_succ, List.map_cons, List.map_nil, List.length_cons, List.length_nil, List.cons_append, List.nil_append, List.replicate, Nat.reduceAdd, Nat.reduceSub, addD_int, subD_int, negD_int, repD_int, modD_int, fdivD_int, ltA_int, leA_int, gtA_int, geA_int, eqD_int, neD_int, pow_10_18, pow_10_60, ei, e]

/-! dicts of sums, sorted words, the told sum -/
abbrev dS (l : SumT) : D := .dct (dE eRat.en l)
theorem ixA_E {l : SumT} {w : Wd} {q : Rat} (h : getT l w = some q) : ixA (dS l) (eWord.en w) = some (eRat.en q) := by
  show (keyT (eWord.en w)).bind (valD _) = _
  rw [keyT_word]
  show valD (dE eRat.en l) (wk w) = _
  rw [valD_E, h]
  rfl
theorem inA_E (l : SumT) (w : Wd) : inA (eWord.en w) (dS l) = some (.bl (getT l w).isSome) := by
  unfold inA inDct
  dsimp only
  rw [keyT_word]
  show some (D.bl (valD (dE eRat.en l) (wk w)).isSome) = _
  rw [valD_E, Option.isSome_map]
theorem items_E (l : SumT) : itemsA (dS l) = some ((l.map (·.1)).map eWord.en) := by
  show some ((dE eRat.en l).map fun p => keyB p.1) = _
  rw [keys_E]
theorem get_E (l : SumT) (w : Wd) : ((getT l w).map eRat.en).getD (eRat.en 0) = eRat.en (coef l w) := by
  unfold coef
  cases getT l w <;> rfl
theorem del_none {l : SumT} {w : Wd} (h : getT l w = none) : delT l w = l := by
  refine List.filter_eq_self.mpr fun p hp => ?_
  have := getT_none.mp h
  refine decide_eq_true fun e => this ?_
  rw [← e]
  exact List.mem_map.mpr ⟨p, hp, rfl⟩
theorem len_small {n : Nat} (h : n ≤ 200000) : n < sizeLine := by rw [sizeLine_is]; omega
theorem nought_ok : k_NOUGHT = eRat.en 0 := rfl
theorem rk_sortable (ws : List Wd) : keysOk (ws.map rkKey) = true := by
  unfold keysOk
  rw [Bool.and_eq_true, Bool.and_eq_true]
  refine ⟨⟨List.all_eq_true.mpr fun p hp => List.all_eq_true.mpr fun q hq => ?_, Bool.or_eq_true_iff.mpr (.inl (List.all_eq_true.mpr fun p hp => ?_))⟩, List.all_eq_true.mpr fun p hp => ?_⟩
  · obtain ⟨a, _, rfl⟩ := List.mem_map.mp hp
    obtain ⟨b, _, rfl⟩ := List.mem_map.mp hq
    exact rk_alike a b
  · obtain ⟨a, _, rfl⟩ := List.mem_map.mp hp
    rfl
  · obtain ⟨a, _, rfl⟩ := List.mem_map.mp hp
    exact decide_eq_true (Nat.le_trans (rk_depth a) (by decide))
theorem keysOf_rk {m : List D → Out (D × D)} (hm : ∀ w, m [eWord.en w] = .ok (rkE w, .non)) : ∀ ws : List Wd, keysOf m (ws.map eWord.en) = some (ws.map fun w => (rkE w, rkKey w))
  | [] => rfl
  | w :: ws => by
    rw [List.map_cons]
    unfold keysOf
    rw [hm]
    dsimp only
    rw [rkE_py, keysOf_rk hm ws]
    rfl
theorem sortK_rk {m : List D → Out (D × D)} (hm : ∀ w, m [eWord.en w] = .ok (rkE w, .non)) (ws : List Wd) : sortK m (ws.map eWord.en) = some ((ws.mergeSort rkLe).map eWord.en) := by
  unfold sortK
  rw [keysOf_rk hm]
  dsimp only
  have e : (ws.map fun w => (rkE w, rkKey w)).map (·.2) = ws.map rkKey := by rw [List.map_map]; rfl
  rw [e, rk_sortable, if_pos rfl]
  congr 1
  refine (List.map_mergeSort (r := rkLe) (s := PySem.W.dataLe false (keyFn m)) (f := eWord.en) (l := ws) fun a _ b _ => ?_).symm
  have kf : ∀ w, keyFn m (eWord.en w) = rkKey w := fun w => by
    unfold keyFn
    rw [hm]
    dsimp only
    rw [rkE_py]
  show rkLe a b = !PySem.W.dataLt (keyFn m (eWord.en b)) (keyFn m (eWord.en a))
  rw [kf, kf, rkKey_lt]
  rfl
theorem told_gen {m : List D → Out (D × D)} (hm : ∀ w, m [eWord.en w] = .ok (rkE w, .non)) {l : SumT} (g : Good l) : runF 2 none (sRet (eComp [1] (iSeqA (eSortK m (eVar 0))) (gName 1) tYesF (eTup (aCons (eVar 1) (aCons (eOp2 ixA (eVar 0) (eVar 1)) aNil))))) [dS l] = .ok (eSum.en (toldT l), .non) := by
  have e := compL_of (vs := [1]) (b := gName 1) (tt := tYesF) (fe := (eTup (aCons (eVar 1) (aCons (eOp2 ixA (eVar 0) (eVar 1)) aNil)))) (f := eWord.en) (ρ := [some (dS l), none]) (c := fun _ => true) (h := fun w => eTerm.en (w, coef l w)) ((l.map (·.1)).mergeSort rkLe) (by
    intro w hw
    have hw := (List.mergeSort_perm _ _).mem_iff.mp hw
    obtain ⟨p, hp, rfl⟩ := List.mem_map.mp hw
    have h1 := getT_of_mem g.nd (q := p.2) hp
    have x1 := ixA_E h1
    have h2 : coef l p.1 = p.2 := by unfold coef; rw [h1]; rfl
    refine ⟨[some (dS l), some (eWord.en p.1)], rfl, [some (dS l), some (eWord.en p.1)], rfl, (fun z => by cases z), fun _ => ⟨[some (dS l), some (eWord.en p.1)], ?_, rfl⟩⟩
    rw [h2]
    simp (disch := first | assumption | decide | omega) only [runF, m0, sSeq, sSet, sIf, sRet, sRetN, sExpr, sSkip_ok, sSetA, sSetIx, sFor, sPar, sBind, sAug, eVar, eCon_ok, eOp2, eOp1, eCall, eCallM, eCallT, eTup, eLst, eArg, eIf, tVal, tNotF, tAndF, tOrF, eB, eAndF, eOrF, eNotF, eIxA, eIxO, eCatO, ixA_lst, ixA_tup, ixA_scr, eDNew, eDGet, eDGetO, eDPop, eSortK, eMM, aHoleQ, aHole, aNil_ok, aCons, oNone_ok, oSome, eSlice, eSliceL, iSeqA, iSeq, iRange, iArg, ePeek, tPeek, eOwnM, tYes_ok, bind_ok, bind_exc, bind_stuck, of_some, flatD, SW.gName, List.getD_cons_zero, List.getD_cons_succ, List.set_cons_zero, List.set_cons_succ, List.map_cons, List.map_nil, List.length_cons, List.length_nil, List.cons_append, List.nil_append, List.replicate, Nat.reduceAdd, Nat.reduceSub, addD_int, subD_int, negD_int, repD_int, modD_int, fdivD_int, ltA_int, leA_int, gtA_int, geA_int, eqD_int, neD_int, pow_10_18, pow_10_60, x1]
    rfl)
  rw [List.filter_eq_self.mpr fun a _ => rfl] at e
  have s := sortK_rk hm (l.map (·.1))
  have en : eSum.en (toldT l) = .lst (((l.map (·.1)).mergeSort rkLe).map fun w => eTerm.en (w, coef l w)) := by
    show D.lst ((toldT l).map eTerm.en) = _
    unfold toldT
    rw [List.map_map]
    rfl
  rw [en]
  simp (disch := first | assumption | decide | omega) only [runF, m0, sSeq, sSet, sIf, sRet, sRetN, sExpr, sSkip_ok, sSetA, sSetIx, sFor, sPar, sBind, sAug, eVar, eCon_ok, eOp2, eOp1, eCall, eCallM, eCallT, eTup, eLst, eArg, eIf, tVal, tNotF, tAndF, tOrF, eB, eAndF, eOrF, eNotF, eIxA, eIxO, eCatO, ixA_lst, ixA_tup, ixA_scr, eDNew, eDGet, eDGetO, eDPop, eSortK, eMM, aHoleQ, aHole, aNil_ok, aCons, oNone_ok, oSome, eSlice, eSliceL, iSeqA, iSeq, iRange, iArg, ePeek, tPeek, eOwnM, tYes_ok, bind_ok, bind_exc, bind_stuck, of_some, flatD, SW.gName, List.getD_cons_zero, List.getD_cons_succ, List.set_cons_zero, List.set_cons_succ, List.map_cons, List.map_nil, List.length_cons, List.length_nil, List.cons_append, List.nil_append, List.replicate, Nat.reduceAdd, Nat.reduceSub, addD_int, subD_int, negD_int, repD_int, modD_int, fdivD_int, ltA_int, leA_int, gtA_int, geA_int, eqD_int, neD_int, pow_10_18, pow_10_60, items_E, Option.bind_some, s, items_l, eComp, e]
theorem told_sum_ok {l : SumT} (g : Good l) : m_told_sum [dS l] = .ok (eSum.en (toldT l), .non) := told_gen rank_ok g
/-- terms added, each within bounds -/
structure Acc (N M k : Nat) (l : SumT) : Prop where
  good : Good l
  bd : ∀ w, Bd N (k * M) (coef l w)
  len : l.length ≤ k
structure Small (N M : Nat) : Prop where
  n0 : N ≠ 0
  n : N < 2 ^ 4000
  m : 100000 * M * N < 2 ^ 4000
theorem Acc.add {N M k : Nat} {l : SumT} {w : Wd} {q : Rat} (hN : N ≠ 0) (h : Acc N M k l) (hq : Bd N M q) : Acc N M (k + 1) (addT l w q) := by
  refine ⟨h.good.add w q, fun v => ?_, Nat.le_trans (add_len _ _ _) (Nat.add_le_add_right h.len 1)⟩
  rw [coef_add h.good]
  have e : (k + 1) * M = k * M + M := by rw [Nat.add_mul, Nat.one_mul]
  rw [e]
  refine Bd.add hN (h.bd v) ?_
  split
  · exact hq
  · exact bd_zero _ _
theorem Acc.sz {N M k : Nat} {l : SumT} (h : Acc N M k l) (s : Small N M) (hk : k ≤ 100000) (w : Wd) : Sz 4000 (coef l w) := (h.bd w).sz s.n0 s.n (Nat.lt_of_le_of_lt (Nat.mul_le_mul_right _ (Nat.mul_le_mul_right _ hk)) s.m)
theorem Small.sz {N M : Nat} (s : Small N M) {q : Rat} (h : Bd N M q) : Sz 4000 q := h.sz s.n0 s.n (Nat.lt_of_le_of_lt (Nat.mul_le_mul_right _ (by omega : M ≤ 100000 * M)) s.m)
theorem put_to_g {i j : Nat} {l : SumT} {w : Wd} {q : Rat} (h1 : Sz i (coef l w)) (h2 : Sz j q) (hij : i + j ≤ 100000000) (hl : l.length ≤ 200000) : m_put_to [dS l, eWord.en w, eRat.en q] = .ok (.non, dS (addT l w q)) := by
  have e1 := plus_ok h1 h2 hij
  have hs : (dE eRat.en l).length < sizeLine := by rw [dE_len]; exact len_small hl
  by_cases z : coef l w + q = 0
  · have d0 : (coef l w + q).num = 0 := by rw [z]; rfl
    have ea : addT l w q = delT l w := by unfold addT; rw [if_pos z]
    rw [ea]
    cases hg : getT l w with
    | none =>
      have i1 := inA_E l w
      rw [hg] at i1
      rw [del_none hg]
      simp (disch := first | assumption | decide | omega) only [m_put_to, b_put_to, runF, m0, sSeq, sSet, sIf, sRet, sRetN, sExpr, sSkip_ok, sSetA, sSetIx, sFor, sPar, sBind, sAug, eVar, eCon_ok, eOp2, eOp1, eCall, eCallM, eCallT, eTup, eLst, eArg, eIf, tVal, tNotF, tAndF, tOrF, eB, eAndF, eOrF, eNotF, eIxA, eIxO, eCatO, ixA_lst, ixA_tup, ixA_scr, eDNew, eDGet, eDGetO, eDPop, eSortK, eMM, aHoleQ, aHole, aNil_ok, aCons, oNone_ok, oSome, eSlice, eSliceL, iSeqA, iSeq, iRange, iArg, ePeek, tPeek, eOwnM, tYes_ok, bind_ok, bind_exc, bind_stuck, of_some, flatD, SW.gName, List.getD_cons_zero, List.getD_cons_succ, List.set_cons_zero, List.set_cons_succ, List.map_cons, List.map_nil, List.length_cons, List.length_nil, List.cons_append, List.nil_append, List.replicate, Nat.reduceAdd, Nat.reduceSub, addD_int, subD_int, negD_int, repD_int, modD_int, fdivD_int, ltA_int, leA_int, gtA_int, geA_int, eqD_int, neD_int, pow_10_18, pow_10_60, Option.getD_some, keyT_word, Option.map_some, valD_E, nought_ok, get_E, e1, r0, decide_eq_true d0, Bool.not_true, Bool.false_eq_true, if_false, i1, Option.isSome_none]
    | some y =>
      have i1 := inA_E l w
      rw [hg] at i1
      have v1 : valD (dE eRat.en l) (wk w) = some (eRat.en y) := by rw [valD_E, hg]; rfl
      have v2 : (some (eRat.en y)).getD (eRat.en 0) = eRat.en (coef l w) := by unfold coef; rw [hg]; rfl
      simp (disch := first | assumption | decide | omega) only [m_put_to, b_put_to, runF, m0, sSeq, sSet, sIf, sRet, sRetN, sExpr, sSkip_ok, sSetA, sSetIx, sFor, sPar, sBind, sAug, eVar, eCon_ok, eOp2, eOp1, eCall, eCallM, eCallT, eTup, eLst, eArg, eIf, tVal, tNotF, tAndF, tOrF, eB, eAndF, eOrF, eNotF, eIxA, eIxO, eCatO, ixA_lst, ixA_tup, ixA_scr, eDNew, eDGet, eDGetO, eDPop, eSortK, eMM, aHoleQ, aHole, aNil_ok, aCons, oNone_ok, oSome, eSlice, eSliceL, iSeqA, iSeq, iRange, iArg, ePeek, tPeek, eOwnM, tYes_ok, bind_ok, bind_exc, bind_stuck, of_some, flatD, SW.gName, List.getD_cons_zero, List.getD_cons_succ, List.set_cons_zero, List.set_cons_succ, List.map_cons, List.map_nil, List.length_cons, List.length_nil, List.cons_append, List.nil_append, List.replicate, Nat.reduceAdd, Nat.reduceSub, addD_int, subD_int, negD_int, repD_int, modD_int, fdivD_int, ltA_int, leA_int, gtA_int, geA_int, eqD_int, neD_int, pow_10_18, pow_10_60, Option.getD_some, keyT_word, Option.map_some, Option.bind_some, v1, v2, nought_ok, e1, r0, decide_eq_true d0, Bool.not_true, Bool.false_eq_true, if_false, if_true, i1, Option.isSome_some, dropD_E]
  · have d0 : ¬ (coef l w + q).num = 0 := num_ne z
    have ea : addT l w q = setT l w (coef l w + q) := by unfold addT; rw [if_neg z]
    rw [ea]
    simp (disch := first | assumption | decide | omega) only [m_put_to, b_put_to, runF, m0, sSeq, sSet, sIf, sRet, sRetN, sExpr, sSkip_ok, sSetA, sSetIx, sFor, sPar, sBind, sAug, eVar, eCon_ok, eOp2, eOp1, eCall, eCallM, eCallT, eTup, eLst, eArg, eIf, tVal, tNotF, tAndF, tOrF, eB, eAndF, eOrF, eNotF, eIxA, eIxO, eCatO, ixA_lst, ixA_tup, ixA_scr, eDNew, eDGet, eDGetO, eDPop, eSortK, eMM, aHoleQ, aHole, aNil_ok, aCons, oNone_ok, oSome, eSlice, eSliceL, iSeqA, iSeq, iRange, iArg, ePeek, tPeek, eOwnM, tYes_ok, bind_ok, bind_exc, bind_stuck, of_some, flatD, SW.gName, List.getD_cons_zero, List.getD_cons_succ, List.set_cons_zero, List.set_cons_succ, List.map_cons, List.map_nil, List.length_cons, List.length_nil, List.cons_append, List.nil_append, List.replicate, Nat.reduceAdd, Nat.reduceSub, addD_int, subD_int, negD_int, repD_int, modD_int, fdivD_int, ltA_int, leA_int, gtA_int, geA_int, eqD_int, neD_int, pow_10_18, pow_10_60, Option.getD_some, keyT_word, Option.map_some, Option.bind_some, valD_E, nought_ok, get_E, e1, r0, decide_eq_false d0, Bool.not_false, if_true, hs, putD_E]
def addAll (ts acc : SumT) : SumT := ts.foldl (fun a p => addT a p.1 p.2) acc
theorem Acc.all {N M : Nat} (hN : N ≠ 0) : ∀ {ts : SumT} {k : Nat} {acc : SumT}, Acc N M k acc → (∀ p ∈ ts, Bd N M p.2) → Acc N M (k + ts.length) (addAll ts acc)
  | [], _, _, h, _ => h
  | p :: ts, k, acc, h, hb => by
    have := Acc.all hN (ts := ts) (h.add (w := p.1) hN (hb p List.mem_cons_self)) fun r hr => hb r (List.mem_cons_of_mem _ hr)
    rw [List.length_cons, Nat.add_comm ts.length 1, ← Nat.add_assoc]
    exact this
theorem addD_w (a b : Wd) (h : a.length + b.length ≤ 1000) : addD (eWord.en a) (eWord.en b) = some (eWord.en (a ++ b)) := by
  show (if _ then some (D.tup (a.map D.int ++ b.map D.int)) else none) = some (D.tup ((a ++ b).map D.int))
  rw [List.map_append, if_pos]
  rw [List.length_map, List.length_map, sizeLine_is]
  omega

/-! sums and tables within bounds -/
/-- a sum and what bounds it: letters, ways, terms, numbers -/
structure SumB (c k n N M : Nat) (A : SumT) : Prop where
  sm : Sm A
  lt : ∀ p ∈ A, ∀ x ∈ p.1, 0 ≤ x ∧ x < (c : Int)
  ln : ∀ p ∈ A, p.1.length ≤ k
  bd : ∀ p ∈ A, Bd N M p.2
  sz : A.length ≤ n
theorem mem_add {l : SumT} {w : Wd} {q : Rat} {p : Wd × Rat} (h : p ∈ addT l w q) : p.1 = w ∨ p ∈ l := by
  unfold addT at h
  split at h
  · exact .inr (List.mem_filter.mp h).1
  · rcases mem_set h with e | h
    · exact .inl (by rw [e])
    · exact .inr h
theorem coef_at {l : SumT} (g : Good l) {p : Wd × Rat} (h : p ∈ l) : coef l p.1 = p.2 := by
  unfold coef
  rw [getT_of_mem g.nd (q := p.2) h]
  rfl
/-- a table and what bounds it -/
structure DicB (c k n N M : Nat) (A : SumT) : Prop where
  gd : Good A
  lt : ∀ p ∈ A, ∀ x ∈ p.1, 0 ≤ x ∧ x < (c : Int)
  ln : ∀ p ∈ A, p.1.length ≤ k
  bd : ∀ p ∈ A, Bd N M p.2
  sz : A.length ≤ n
theorem DicB.told {c k n N M : Nat} {A : SumT} (h : DicB c k n N M A) : SumB c k n N M (toldT A) := by
  have key : ∀ p ∈ toldT A, p ∈ A := fun p hp => (told_perm h.gd.nd).mem_iff.mp hp
  exact ⟨h.gd.told, fun p hp => h.lt p (key p hp), fun p hp => h.ln p (key p hp), fun p hp => h.bd p (key p hp), by rw [(told_perm h.gd.nd).length_eq]; exact h.sz⟩
/-! letters joined: what the program tells -/
theorem SumB.ok {c k n N M : Nat} {A : SumT} (h : SumB c k n N M A) (hk : k ≤ 5) : SumOk c A := ⟨h.sm, fun p hp => ⟨Nat.le_trans (h.ln p hp) hk, h.lt p hp⟩⟩

/-! letters: the law's own sums -/
theorem getT_map (w : Wd) (q : Rat) : ∀ l : SumT, getT (l.map fun p => if p.1 = w then (p.1, q) else p) w = (getT l w).map fun _ => q
  | [] => rfl
  | p :: l => by
    rw [List.map_cons, getT_cons, getT_cons]
    by_cases h : p.1 = w
    · rw [if_pos h, if_pos h, if_pos h]; rfl
    · rw [if_neg h, if_neg h, if_neg h]; exact getT_map w q l
theorem getT_app (w : Wd) (q : Rat) : ∀ l : SumT, getT l w = none → getT (l ++ [(w, q)]) w = some q
  | [], _ => by rw [List.nil_append, getT_cons, if_pos rfl]
  | p :: l, h => by
    rw [getT_cons] at h
    rw [List.cons_append, getT_cons]
    by_cases e : p.1 = w
    · rw [if_pos e] at h; cases h
    · rw [if_neg e] at h ⊢; exact getT_app w q l h
theorem getT_set (l : SumT) (w : Wd) (q : Rat) : getT (setT l w q) w = some q := by
  unfold setT
  cases h : getT l w with
  | none => rw [if_neg (by simp)]; exact getT_app w q l h
  | some y => rw [if_pos (by rfl), getT_map, h]; rfl
theorem del_map (w : Wd) (q : Rat) : ∀ l : SumT, delT (l.map fun p => if p.1 = w then (p.1, q) else p) w = delT l w
  | [] => rfl
  | p :: l => by
    have ih := del_map w q l
    unfold delT at *
    rw [List.map_cons]
    by_cases h : p.1 = w
    · rw [if_pos h, List.filter_cons_of_neg (by simp [h]), List.filter_cons_of_neg (by simp [h]), ih]
    · rw [if_neg h, List.filter_cons_of_pos (by simp [h]), List.filter_cons_of_pos (by simp [h]), ih]
theorem del_set (l : SumT) (w : Wd) (q : Rat) : delT (setT l w q) w = delT l w := by
  unfold setT
  split
  · exact del_map w q l
  · unfold delT
    rw [List.filter_append, List.filter_cons_of_neg (by simp), List.filter_nil, List.append_nil]
theorem get_E2 (l : SumT) (w : Wd) : ((getT l w).map eRat.en).getD (.tup [.int 0, .int 1]) = eRat.en (coef l w) := get_E l w
theorem law_put_g {i j : Nat} {l : SumT} {w : Wd} {q : Rat} (h1 : Sz i (coef l w)) (h2 : Sz j q) (hij : i + j ≤ 100000000) (hl : l.length ≤ 200000) : m__law_put [dS l, eWord.en w, eRat.en q] = .ok (.non, dS (addT l w q)) := by
  have e1 := law_plus_ok h1 h2 hij
  have hs : (dE eRat.en l).length < sizeLine := by rw [dE_len]; exact len_small hl
  have x1 := ixA_E (getT_set l w (coef l w + q))
  by_cases z : coef l w + q = 0
  · have d0 : (coef l w + q).num = 0 := by rw [z]; rfl
    have ea : addT l w q = delT l w := by unfold addT; rw [if_pos z]
    have v1 : valD (dE eRat.en (setT l w (coef l w + q))) (wk w) = some (eRat.en (coef l w + q)) := by rw [valD_E, getT_set]; rfl
    rw [ea]
    simp (disch := first | assumption | decide | omega) only [m__law_put, b__law_put, runF, m0, sSeq, sSet, sIf, sRet, sRetN, sExpr, sSkip_ok, sSetA, sSetIx, sFor, sPar, sBind, sAug, eVar, eCon_ok, eOp2, eOp1, eCall, eCallM, eCallT, eTup, eLst, eArg, eIf, tVal, tNotF, tAndF, tOrF, eB, eAndF, eOrF, eNotF, eIxA, eIxO, eCatO, ixA_lst, ixA_tup, ixA_scr, eDNew, eDGet, eDGetO, eDPop, eSortK, eMM, aHoleQ, aHole, aNil_ok, aCons, oNone_ok, oSome, eSlice, eSliceL, iSeqA, iSeq, iRange, iArg, ePeek, tPeek, eOwnM, tYes_ok, bind_ok, bind_exc, bind_stuck, of_some, flatD, SW.gName, List.getD_cons_zero, List.getD_cons_succ, List.set_cons_zero, List.set_cons_succ, List.map_cons, List.map_nil, List.length_cons, List.length_nil, List.cons_append, List.nil_append, List.replicate, Nat.reduceAdd, Nat.reduceSub, addD_int, subD_int, negD_int, repD_int, modD_int, fdivD_int, ltA_int, leA_int, gtA_int, geA_int, eqD_int, neD_int, pow_10_18, pow_10_60, Option.getD_some, keyT_word, Option.map_some, Option.bind_some, valD_E, get_E2, e1, hs, if_true, putD_E, x1, r0, decide_eq_true d0, getT_set, dropD_E, del_set]
  · have d0 : ¬ (coef l w + q).num = 0 := num_ne z
    have ea : addT l w q = setT l w (coef l w + q) := by unfold addT; rw [if_neg z]
    rw [ea]
    simp (disch := first | assumption | decide | omega) only [m__law_put, b__law_put, runF, m0, sSeq, sSet, sIf, sRet, sRetN, sExpr, sSkip_ok, sSetA, sSetIx, sFor, sPar, sBind, sAug, eVar, eCon_ok, eOp2, eOp1, eCall, eCallM, eCallT, eTup, eLst, eArg, eIf, tVal, tNotF, tAndF, tOrF, eB, eAndF, eOrF, eNotF, eIxA, eIxO, eCatO, ixA_lst, ixA_tup, ixA_scr, eDNew, eDGet, eDGetO, eDPop, eSortK, eMM, aHoleQ, aHole, aNil_ok, aCons, oNone_ok, oSome, eSlice, eSliceL, iSeqA, iSeq, iRange, iArg, ePeek, tPeek, eOwnM, tYes_ok, bind_ok, bind_exc, bind_stuck, of_some, flatD, SW.gName, List.getD_cons_zero, List.getD_cons_succ, List.set_cons_zero, List.set_cons_succ, List.map_cons, List.map_nil, List.length_cons, List.length_nil, List.cons_append, List.nil_append, List.replicate, Nat.reduceAdd, Nat.reduceSub, addD_int, subD_int, negD_int, repD_int, modD_int, fdivD_int, ltA_int, leA_int, gtA_int, geA_int, eqD_int, neD_int, pow_10_18, pow_10_60, Option.getD_some, keyT_word, Option.map_some, Option.bind_some, valD_E, get_E2, e1, hs, if_true, putD_E, x1, r0, decide_eq_false d0, Bool.false_eq_true, if_false]
theorem law_rank_ok (w : Wd) : m__law_rank [eWord.en w] = .ok (rkE w, .non) := by
  simp (disch := first | assumption | decide | omega) only [m__law_rank, b__law_rank, runF, m0, sSeq, sSet, sIf, sRet, sRetN, sExpr, sSkip_ok, sSetA, sSetIx, sFor, sPar, sBind, sAug, eVar, eCon_ok, eOp2, eOp1, eCall, eCallM, eCallT, eTup, eLst, eArg, eIf, tVal, tNotF, tAndF, tOrF, eB, eAndF, eOrF, eNotF, eIxA, eIxO, eCatO, ixA_lst, ixA_tup, ixA_scr, eDNew, eDGet, eDGetO, eDPop, eSortK, eMM, aHoleQ, aHole, aNil_ok, aCons, oNone_ok, oSome, eSlice, eSliceL, iSeqA, iSeq, iRange, iArg, ePeek, tPeek, eOwnM, tYes_ok, bind_ok, bind_exc, bind_stuck, of_some, flatD, SW.gName, List.getD_cons_zero, List.getD_cons_succ, List.set_cons_zero, List.set_cons_succ, List.map_cons, List.map_nil, List.length_cons, List.length_nil, List.cons_append, List.nil_append, List.replicate, Nat.reduceAdd, Nat.reduceSub, addD_int, subD_int, negD_int, repD_int, modD_int, fdivD_int, ltA_int, leA_int, gtA_int, geA_int, eqD_int, neD_int, pow_10_18, pow_10_60, len_w, rkE]
theorem law_told_ok {l : SumT} (g : Good l) : m__law_told [dS l] = .ok (eSum.en (toldT l), .non) := told_gen law_rank_ok g
/-! drawn -/
theorem pow_10_3 : powD (.int 10) (.int 3) = some (.int 1000) := powD_int (by decide) (by decide)
theorem law_number_ok {n : Nat} {p : D} (hp : Ps (n + 3) p) : ∃ (r : Rat) (p' : D), m__law_number [p] = .ok (eRat.en r, p') ∧ Bd 2520 1000 r ∧ Ps n p' := by
  obtain ⟨g1, p1, e1, g10, g11, hp1⟩ := take_ok (n := n + 2) (many := 5) hp (by decide) (by decide)
  by_cases h3 : g1 < 3
  · have hx : ∃ r : Rat, ixD (.lst [.tup [.int 0, .int 1], .tup [.int 1, .int 1], .tup [.int (-1), .int 1]]) (.int g1) = some (eRat.en r) ∧ Bd 2520 1000 r := by
      have : g1 = 0 ∨ g1 = 1 ∨ g1 = 2 := by omega
      rcases this with rfl | rfl | rfl
      · exact ⟨0, rfl, bd_zero _ _⟩
      · exact ⟨1, rfl, by decide, by decide⟩
      · exact ⟨-1, rfl, by decide, by decide⟩
    obtain ⟨r, er, hr⟩ := hx
    refine ⟨r, p1, ?_, hr, Ps.mono (by omega) hp1⟩
    simp (disch := first | assumption | decide | omega) only [m__law_number, b__law_number, runF, m0, sSeq, sSet, sIf, sRet, sRetN, sExpr, sSkip_ok, sSetA, sSetIx, sFor, sPar, sBind, sAug, eVar, eCon_ok, eOp2, eOp1, eCall, eCallM, eCallT, eTup, eLst, eArg, eIf, tVal, tNotF, tAndF, tOrF, eB, eAndF, eOrF, eNotF, eIxA, eIxO, eCatO, ixA_lst, ixA_tup, ixA_scr, eDNew, eDGet, eDGetO, eDPop, eSortK, eMM, aHoleQ, aHole, aNil_ok, aCons, oNone_ok, oSome, eSlice, eSliceL, iSeqA, iSeq, iRange, iArg, ePeek, tPeek, eOwnM, tYes_ok, bind_ok, bind_exc, bind_stuck, of_some, flatD, SW.gName, List.getD_cons_zero, List.getD_cons_succ, List.set_cons_zero, List.set_cons_succ, List.map_cons, List.map_nil, List.length_cons, List.length_nil, List.cons_append, List.nil_append, List.replicate, Nat.reduceAdd, Nat.reduceSub, addD_int, subD_int, negD_int, repD_int, modD_int, fdivD_int, ltA_int, leA_int, gtA_int, geA_int, eqD_int, neD_int, pow_10_18, pow_10_60, e1, decide_eq_true h3, if_true, er, Option.getD_some]
  · by_cases h5 : g1 = 3
    · obtain ⟨g2, p2, e2, g20, g21, hp2⟩ := take_ok (n := n + 1) (many := 13) hp1 (by decide) (by decide)
      have en : eRat.en (mkRat (g2 - 6) 1) = .tup [.int (g2 - 6), .int 1] := rat_en (mkRat_one _).1 (mkRat_one _).2
      refine ⟨mkRat (g2 - 6) 1, p2, ?_, bd_of (by decide) rfl (by decide) (by omega), Ps.mono (by omega) hp2⟩
      rw [en]
      simp (disch := first | assumption | decide | omega) only [m__law_number, b__law_number, runF, m0, sSeq, sSet, sIf, sRet, sRetN, sExpr, sSkip_ok, sSetA, sSetIx, sFor, sPar, sBind, sAug, eVar, eCon_ok, eOp2, eOp1, eCall, eCallM, eCallT, eTup, eLst, eArg, eIf, tVal, tNotF, tAndF, tOrF, eB, eAndF, eOrF, eNotF, eIxA, eIxO, eCatO, ixA_lst, ixA_tup, ixA_scr, eDNew, eDGet, eDGetO, eDPop, eSortK, eMM, aHoleQ, aHole, aNil_ok, aCons, oNone_ok, oSome, eSlice, eSliceL, iSeqA, iSeq, iRange, iArg, ePeek, tPeek, eOwnM, tYes_ok, bind_ok, bind_exc, bind_stuck, of_some, flatD, SW.gName, List.getD_cons_zero, List.getD_cons_succ, List.set_cons_zero, List.set_cons_succ, List.map_cons, List.map_nil, List.length_cons, List.length_nil, List.cons_append, List.nil_append, List.replicate, Nat.reduceAdd, Nat.reduceSub, addD_int, subD_int, negD_int, repD_int, modD_int, fdivD_int, ltA_int, leA_int, gtA_int, geA_int, eqD_int, neD_int, pow_10_18, pow_10_60, e1, decide_eq_false h3, decide_eq_true h5, if_true, if_false, Bool.false_eq_true, e2, Option.getD_some]
    · have b1 : bits2 2 1000 = true := bits2_l (by decide)
      obtain ⟨g2, p2, e2, g20, g21, hp2⟩ := take_ok (n := n + 1) (many := 2 * 1000 + 1) hp1 (by decide) (by decide)
      obtain ⟨g3, p3, e3, g30, g31, hp3⟩ := take_ok (n := n) (many := 9) hp2 (by decide) (by decide)
      have hd : ∃ d : Nat, 1 + g3 = ((d : Nat) : Int) ∧ (d = 1 ∨ d = 2 ∨ d = 3 ∨ d = 4 ∨ d = 5 ∨ d = 6 ∨ d = 7 ∨ d = 8 ∨ d = 9) := ⟨(1 + g3).toNat, by omega, by omega⟩
      obtain ⟨d, ed, d1⟩ := hd
      have el := law_low_ok (g2 - 1000) (show d ≠ 0 by omega)
      refine ⟨mkRat (g2 - 1000) d, p3, ?_, bd_of (by omega) rfl (by rcases d1 with h | h | h | h | h | h | h | h | h <;> subst h <;> decide) (by omega), hp3⟩
      simp (disch := first | assumption | decide | omega) only [m__law_number, b__law_number, runF, m0, sSeq, sSet, sIf, sRet, sRetN, sExpr, sSkip_ok, sSetA, sSetIx, sFor, sPar, sBind, sAug, eVar, eCon_ok, eOp2, eOp1, eCall, eCallM, eCallT, eTup, eLst, eArg, eIf, tVal, tNotF, tAndF, tOrF, eB, eAndF, eOrF, eNotF, eIxA, eIxO, eCatO, ixA_lst, ixA_tup, ixA_scr, eDNew, eDGet, eDGetO, eDPop, eSortK, eMM, aHoleQ, aHole, aNil_ok, aCons, oNone_ok, oSome, eSlice, eSliceL, iSeqA, iSeq, iRange, iArg, ePeek, tPeek, eOwnM, tYes_ok, bind_ok, bind_exc, bind_stuck, of_some, flatD, SW.gName, List.getD_cons_zero, List.getD_cons_succ, List.set_cons_zero, List.set_cons_succ, List.map_cons, List.map_nil, List.length_cons, List.length_nil, List.cons_append, List.nil_append, List.replicate, Nat.reduceAdd, Nat.reduceSub, addD_int, subD_int, negD_int, repD_int, modD_int, fdivD_int, ltA_int, leA_int, gtA_int, geA_int, eqD_int, neD_int, pow_10_18, pow_10_60, pow_10_3, e1, decide_eq_false h3, decide_eq_false h5, if_true, if_false, Bool.false_eq_true, e2, e3, ed, el, Option.getD_some]
theorem tuple_i (w : Wd) : tupleD [.lst (w.map D.int)] = some (eWord.en w) := rfl
theorem good_set {l : SumT} {w : Wd} {q : Rat} (g : Good l) (hq : q ≠ 0) : Good (setT l w q) := ⟨nodup_set g.nd, fun p hp => by
  rcases mem_set hp with e | hp
  · rw [e]; exact hq
  · exact g.nz p hp⟩
theorem DicB.set {c k n N M : Nat} {l : SumT} {w : Wd} {q : Rat} (h : DicB c k n N M l) (hq : q ≠ 0) (hw : w.length ≤ k) (hx : ∀ x ∈ w, 0 ≤ x ∧ x < (c : Int)) (hb : Bd N M q) : DicB c k (n + 1) N M (setT l w q) := by
  refine ⟨good_set h.gd hq, fun p hp => ?_, fun p hp => ?_, fun p hp => ?_, Nat.le_trans (set_len _ _ _) (Nat.add_le_add_right h.sz 1)⟩
  · rcases mem_set hp with e | hp
    · rw [e]; exact hx
    · exact h.lt p hp
  · rcases mem_set hp with e | hp
    · rw [e]; exact hw
    · exact h.ln p hp
  · rcases mem_set hp with e | hp
    · rw [e]; exact hb
    · exact h.bd p hp
/-! how many words there are -/
def encW : Wd → Nat
  | [] => 0
  | x :: w => 7 * encW w + (x.toNat + 1)
theorem enc_lt : ∀ {w : Wd}, (∀ x ∈ w, 0 ≤ x ∧ x < 6) → encW w < 7 ^ w.length
  | [], _ => by decide
  | x :: w, h => by
    have ih := enc_lt (w := w) fun y hy => h y (List.mem_cons_of_mem _ hy)
    have hx := h x (by simp)
    show 7 * encW w + (x.toNat + 1) < 7 ^ (w.length + 1)
    rw [Nat.pow_succ]
    omega
theorem enc_inj : ∀ {v w : Wd}, (∀ x ∈ v, 0 ≤ x ∧ x < 6) → (∀ x ∈ w, 0 ≤ x ∧ x < 6) → encW v = encW w → v = w
  | [], [], _, _, _ => rfl
  | [], y :: w, _, h, e => by
    have : 0 = 7 * encW w + (y.toNat + 1) := e
    omega
  | x :: v, [], _, _, e => by
    have : 7 * encW v + (x.toNat + 1) = 0 := e
    omega
  | x :: v, y :: w, h1, h2, e => by
    have e : 7 * encW v + (x.toNat + 1) = 7 * encW w + (y.toNat + 1) := e
    have hx := h1 x (by simp)
    have hy := h2 y (by simp)
    have e1 : encW v = encW w := by omega
    have e2 : x = y := by omega
    rw [e2, enc_inj (fun z hz => h1 z (List.mem_cons_of_mem _ hz)) (fun z hz => h2 z (List.mem_cons_of_mem _ hz)) e1]
theorem nodup_lt : ∀ {N : Nat} {l : List Nat}, l.Nodup → (∀ x ∈ l, x < N) → l.length ≤ N
  | 0, l, _, h => by
    cases l with
    | nil => exact Nat.le_refl _
    | cons x l => have := h x (by simp); omega
  | N + 1, l, hn, h => by
    by_cases hm : N ∈ l
    · have h1 := nodup_lt (N := N) (l := l.erase N) (hn.erase N) fun x hx => by
        have := (List.Nodup.mem_erase_iff hn).mp hx
        have := h x this.2
        omega
      rw [List.length_erase_of_mem hm] at h1
      omega
    · have h1 := nodup_lt (N := N) hn fun x hx => by
        have := h x hx
        have : x ≠ N := fun e => hm (e ▸ hx)
        omega
      omega
theorem nodup_map_on {α β : Type} (f : α → β) : ∀ {l : List α}, l.Nodup → (∀ x ∈ l, ∀ y ∈ l, f x = f y → x = y) → (l.map f).Nodup
  | [], _, _ => List.nodup_nil
  | x :: l, h, hi => by
    obtain ⟨h1, h2⟩ := List.nodup_cons.mp h
    rw [List.map_cons, List.nodup_cons]
    refine ⟨fun z => ?_, nodup_map_on f h2 fun y hy u hu => hi y (List.mem_cons_of_mem _ hy) u (List.mem_cons_of_mem _ hu)⟩
    obtain ⟨y, hy, e⟩ := List.mem_map.mp z
    have := hi y (List.mem_cons_of_mem _ hy) x (by simp) e
    exact h1 (this ▸ hy)
theorem wd_many {n : Nat} (n6 : n ≤ 6) {l : SumT} (hn : (l.map (·.1)).Nodup) (h : ∀ p ∈ l, WdOk n p.1) : l.length ≤ 16807 := by
  have hr : ∀ w ∈ l.map (·.1), w.length ≤ 5 ∧ ∀ x ∈ w, 0 ≤ x ∧ x < 6 := fun w hw => by
    obtain ⟨p, hp, rfl⟩ := List.mem_map.mp hw
    exact ⟨(h p hp).1, fun x hx => by have := (h p hp).2 x hx; omega⟩
  have h1 := nodup_lt (N := 16807) (l := (l.map (·.1)).map encW) (nodup_map_on encW hn fun x hx y hy => enc_inj (hr x hx).2 (hr y hy).2) fun x hx => by
    obtain ⟨w, hw, rfl⟩ := List.mem_map.mp hx
    have a := enc_lt (hr w hw).2
    have b : 7 ^ w.length ≤ 7 ^ 5 := Nat.pow_le_pow_right (by decide) (hr w hw).1
    have : (7 : Nat) ^ 5 = 16807 := by decide
    omega
  simpa using h1

theorem two_le {a b : Nat} (h : a ≤ b) : 2 ^ a ≤ 2 ^ b := Nat.pow_le_pow_right (by decide) h
theorem mul_lt2 {a b i j : Nat} (h1 : a < 2 ^ i) (h2 : b < 2 ^ j) : a * b < 2 ^ (i + j) := by
  rw [Nat.pow_add]
  exact Nat.mul_lt_mul_of_lt_of_le h1 (Nat.le_of_lt h2) (Nat.pow_pos (by decide))
/-! adding up -/
structure AccL (N M c j k : Nat) (l : SumT) : Prop where
  good : Good l
  bd : ∀ w, Bd N (k * M) (coef l w)
  wd : ∀ p ∈ l, p.1.length ≤ j ∧ ∀ x ∈ p.1, 0 ≤ x ∧ x < (c : Int)
theorem accL_nil (N M c j : Nat) : AccL N M c j 0 [] := ⟨good_nil, fun w => bd_zero _ _, by simp⟩
theorem AccL.add {N M c j k : Nat} {l : SumT} {w : Wd} {q : Rat} (hN : 0 < N) (h : AccL N M c j k l) (hq : Bd N M q) (hw : w.length ≤ j) (hx : ∀ x ∈ w, 0 ≤ x ∧ x < (c : Int)) : AccL N M c j (k + 1) (addT l w q) := by
  refine ⟨h.good.add w q, fun v => ?_, fun p hp => ?_⟩
  · rw [coef_add h.good]
    have e : (k + 1) * M = k * M + M := Nat.succ_mul k M
    rw [e]
    refine Bd.add (by omega) (h.bd v) ?_
    split
    · exact hq
    · exact bd_zero _ _
  · rcases mem_add hp with e | e
    · rw [e]; exact ⟨hw, hx⟩
    · exact h.wd p e
theorem AccL.len {N M c j k : Nat} {l : SumT} (h : AccL N M c j k l) (j5 : j ≤ 5) (c6 : c ≤ 6) : l.length ≤ 16807 := wd_many c6 h.good.nd fun p hp => ⟨Nat.le_trans (h.wd p hp).1 j5, (h.wd p hp).2⟩
theorem AccL.sz {N M c j k a : Nat} {l : SumT} (h : AccL N M c j k l) (n0 : 0 < N) (hN : N < 2 ^ a) (hM : M < 2 ^ a) (hk : k ≤ 1000000000) (w : Wd) : Sz (2 * a + 30) (coef l w) := by
  refine (h.bd w).sz (by omega) (Nat.lt_of_lt_of_le hN (two_le (by omega))) ?_
  have := mul_lt2 (mul_lt2 (show k < 2 ^ 30 by omega) hM) hN
  exact Nat.lt_of_lt_of_le this (two_le (by omega))
theorem bd_sz2 {N M a : Nat} {q : Rat} (h : Bd N M q) (n0 : 0 < N) (hN : N < 2 ^ a) (hM : M < 2 ^ a) : Sz (2 * a) q := by
  refine h.sz (by omega) (Nat.lt_of_lt_of_le hN (two_le (by omega))) ?_
  rw [show 2 * a = a + a by omega]
  exact mul_lt2 hM hN
/-! sums with told bounds on their numbers' bits -/
def Lv (e c : Nat) (l : SumT) : Prop := ∃ N, 0 < N ∧ N < 2 ^ e ∧ AccL N (2 ^ e) c 5 1 l
theorem Lv.good {e c : Nat} {l : SumT} (h : Lv e c l) : Good l := by obtain ⟨N, _, _, h⟩ := h; exact h.good
theorem Lv.wd {e c : Nat} {l : SumT} (h : Lv e c l) : ∀ p ∈ l, p.1.length ≤ 5 ∧ ∀ x ∈ p.1, 0 ≤ x ∧ x < (c : Int) := by obtain ⟨N, _, _, h⟩ := h; exact h.wd
theorem Lv.len {e c : Nat} {l : SumT} (h : Lv e c l) (c6 : c ≤ 6) : l.length ≤ 16807 := by obtain ⟨N, _, _, h⟩ := h; exact h.len (Nat.le_refl _) c6
theorem accL_at {N M c j k : Nat} {l : SumT} (h : AccL N M c j k l) {p : Wd × Rat} (hp : p ∈ l) : Bd N (k * M) p.2 := by
  have := h.bd p.1
  rw [coef_at h.good hp] at this
  exact this
theorem accL_told {N M c j k : Nat} {l : SumT} (h : AccL N M c j k l) : AccL N M c j k (toldT l) := ⟨h.good.told.good, fun w => by rw [coef_told h.good]; exact h.bd w, fun p hp => h.wd p ((told_perm h.good.nd).mem_iff.mp hp)⟩
theorem Lv.told {e c : Nat} {l : SumT} (h : Lv e c l) : Lv e c (toldT l) := by
  obtain ⟨N, a, b, h⟩ := h
  exact ⟨N, a, b, accL_told h⟩
theorem accL_lift {N N' M M' c j k k' : Nat} {l : SumT} (h : AccL N M c j k l) (hN : N ∣ N') (hM : k * M ≤ k' * M') : AccL N' M' c j k' l := ⟨h.good, fun w => ((h.bd w).mono hM).lift hN, h.wd⟩
theorem Lv.mono {e e' c : Nat} {l : SumT} (h : Lv e c l) (he : e ≤ e') : Lv e' c l := by
  obtain ⟨N, a, b, h⟩ := h
  exact ⟨N, a, Nat.lt_of_lt_of_le b (two_le he), accL_lift h (Nat.dvd_refl _) (Nat.mul_le_mul_left 1 (two_le he))⟩
theorem Lv.sz {e c : Nat} {l : SumT} (h : Lv e c l) {p : Wd × Rat} (hp : p ∈ l) : Sz (2 * e + 1) p.2 := by
  obtain ⟨N, a, b, h⟩ := h
  have h1 := accL_at h hp
  rw [Nat.one_mul] at h1
  exact h1.sz (by omega) (Nat.lt_of_lt_of_le b (two_le (by omega))) (by
    have := Nat.mul_lt_mul_of_le_of_lt (Nat.le_refl (2 ^ e)) b (Nat.pow_pos (by decide))
    rw [← Nat.pow_add] at this
    exact Nat.lt_of_lt_of_le this (two_le (by omega)))
theorem lv_nil (c : Nat) : Lv 1 c [] := ⟨1, by decide, by decide, good_nil, fun w => bd_zero _ _, by simp⟩
theorem lv_one (c : Nat) : Lv 1 c [([], 1)] := ⟨1, by decide, by decide, ⟨by simp, fun p hp => by
    rw [List.mem_singleton.mp hp]
    exact fun z => by cases z⟩, fun w => by
    rw [coef_cons]
    split
    · exact ⟨⟨1, rfl⟩, by decide⟩
    · exact bd_zero _ _, fun p hp => by
    rw [List.mem_singleton.mp hp]
    exact ⟨by decide, by simp⟩⟩
/-! all words of the one with those of the other behind, longer ones left out -/
def cutS (m : Nat) (w : Wd) (q : Rat) (s : SumT) (r : Wd × Rat) : SumT := if w.length + r.1.length ≤ m then addT s (w ++ r.1) (q * r.2) else s
def joinM (m : Nat) (A B : SumT) : SumT := A.foldl (fun s p => B.foldl (cutS m p.1 p.2) s) []
theorem cut_acc {N M c m : Nat} (n0 : 0 < N) (m5 : m ≤ 5) {w : Wd} {q : Rat} (hw : ∀ x ∈ w, 0 ≤ x ∧ x < (c : Int)) : ∀ (B s : SumT) (k : Nat), AccL N M c 5 k s → (∀ t ∈ B, (∀ x ∈ t.1, 0 ≤ x ∧ x < (c : Int)) ∧ Bd N M (q * t.2)) → AccL N M c 5 (k + B.length) (B.foldl (cutS m w q) s)
  | [], s, k, h, _ => h
  | t :: B, s, k, h, ht => by
    obtain ⟨t1, t2⟩ := ht t (by simp)
    have h1 : AccL N M c 5 (k + 1) (cutS m w q s t) := by
      unfold cutS
      split
      · refine h.add n0 t2 (by rw [List.length_append]; omega) fun x hx => ?_
        rcases List.mem_append.mp hx with e | e
        · exact hw x e
        · exact t1 x e
      · exact ⟨h.good, fun v => (h.bd v).mono (Nat.mul_le_mul_right _ (by omega)), h.wd⟩
    have := cut_acc n0 m5 hw B _ _ h1 fun x hx => ht x (List.mem_cons_of_mem _ hx)
    rw [List.length_cons, show k + (B.length + 1) = k + 1 + B.length by omega, List.foldl_cons]
    exact this
theorem joinM_acc {N M c m : Nat} (n0 : 0 < N) (m5 : m ≤ 5) {B : SumT} : ∀ (A s : SumT) (k : Nat), AccL N M c 5 k s → (∀ p ∈ A, (∀ x ∈ p.1, 0 ≤ x ∧ x < (c : Int)) ∧ ∀ t ∈ B, (∀ x ∈ t.1, 0 ≤ x ∧ x < (c : Int)) ∧ Bd N M (p.2 * t.2)) → AccL N M c 5 (k + A.length * B.length) (A.foldl (fun s p => B.foldl (cutS m p.1 p.2) s) s)
  | [], s, k, h, _ => by rw [List.length_nil, Nat.zero_mul]; exact h
  | p :: A, s, k, h, hp => by
    obtain ⟨p1, p2⟩ := hp p (by simp)
    have := joinM_acc n0 m5 A _ _ (cut_acc n0 m5 p1 B s k h p2) fun x hx => hp x (List.mem_cons_of_mem _ hx)
    rw [List.length_cons, Nat.add_mul, Nat.one_mul, List.foldl_cons, show k + (A.length * B.length + B.length) = k + B.length + A.length * B.length by omega]
    exact this
theorem prod_le {a b : Nat} (h1 : a ≤ 16807) (h2 : b ≤ 16807) : a * b ≤ 282475249 := Nat.mul_le_mul h1 h2
theorem join_bits {e1 e2 k : Nat} (hk : k ≤ 282475249) : k * (2 ^ e1 * 2 ^ e2) ≤ 1 * 2 ^ (e1 + e2 + 29) := by
  rw [Nat.one_mul, Nat.pow_add 2 (e1 + e2) 29, Nat.pow_add 2 e1 e2, Nat.mul_comm k]
  exact Nat.mul_le_mul_left _ (Nat.le_trans hk (by decide))
theorem Lv.join {e1 e2 c m : Nat} {A B : SumT} (hA : Lv e1 c A) (hB : Lv e2 c B) (c6 : c ≤ 6) (m5 : m ≤ 5) : Lv (e1 + e2 + 29) c (joinM m A B) := by
  have la := hA.len c6
  have lb := hB.len c6
  obtain ⟨N1, a1, b1, h1⟩ := hA
  obtain ⟨N2, a2, b2, h2⟩ := hB
  refine ⟨N1 * N2, Nat.mul_pos a1 a2, Nat.lt_of_lt_of_le (mul_lt2 b1 b2) (two_le (by omega)), ?_⟩
  have h := joinM_acc (N := N1 * N2) (M := 2 ^ e1 * 2 ^ e2) (Nat.mul_pos a1 a2) m5 (B := B) A [] 0 (accL_nil _ _ _ _) fun p hp => ⟨(h1.wd p hp).2, fun t ht => ⟨(h2.wd t ht).2, by
    have x := accL_at h1 hp
    have y := accL_at h2 ht
    rw [Nat.one_mul] at x y
    exact x.mul y⟩⟩
  refine accL_lift h (Nat.dvd_refl _) (join_bits ?_)
  rw [Nat.zero_add]
  exact prod_le la lb
theorem cutS_good {m : Nat} {w : Wd} {q : Rat} {s : SumT} {t : Wd × Rat} (h : Good s) : Good (cutS m w q s t) := by
  unfold cutS
  split
  · exact h.add _ _
  · exact h
theorem cut_good {m : Nat} {w : Wd} {q : Rat} : ∀ (B s : SumT), Good s → Good (B.foldl (cutS m w q) s)
  | [], _, h => h
  | t :: B, s, h => cut_good B _ (cutS_good h)
theorem joinM_good' {m : Nat} {B : SumT} : ∀ (A s : SumT), Good s → Good (A.foldl (fun s p => B.foldl (cutS m p.1 p.2) s) s)
  | [], _, h => h
  | _ :: A, _, h => joinM_good' A _ (cut_good B _ h)
theorem joinM_good (m : Nat) (A B : SumT) : Good (joinM m A B) := joinM_good' A [] good_nil
theorem lin_cut {m : Nat} {w : Wd} {q : Rat} {f : Wd → Rat} : ∀ (B s : SumT), Good s → linS f (B.foldl (cutS m w q) s) = linS f s + q * linS (fun v => if w.length + v.length ≤ m then f (w ++ v) else 0) B
  | [], s, h => by show linS f s = linS f s + q * 0; grind
  | t :: B, s, h => by
    have h1 : Good (cutS m w q s t) := cutS_good h
    rw [List.foldl_cons, lin_cut B _ h1]
    show linS f (cutS m w q s t) + _ = linS f s + q * (t.2 * (if w.length + t.1.length ≤ m then f (w ++ t.1) else 0) + linS _ B)
    unfold cutS
    split
    · rw [lin_add h.nd]; grind
    · grind
theorem lin_joinM' {m : Nat} {B : SumT} {f : Wd → Rat} : ∀ (A s : SumT), Good s → linS f (A.foldl (fun s p => B.foldl (cutS m p.1 p.2) s) s) = linS f s + linS (fun u => linS (fun v => if u.length + v.length ≤ m then f (u ++ v) else 0) B) A
  | [], s, h => by show linS f s = linS f s + 0; grind
  | p :: A, s, h => by
    rw [List.foldl_cons, lin_joinM' A _ (cut_good B _ h), lin_cut B s h]
    show _ = linS f s + (p.2 * linS _ B + linS _ A)
    grind
theorem lin_joinM (m : Nat) (f : Wd → Rat) (A B : SumT) : linS f (joinM m A B) = linS (fun u => linS (fun v => if u.length + v.length ≤ m then f (u ++ v) else 0) B) A := by
  unfold joinM
  rw [lin_joinM' A [] good_nil]
  show (0 : Rat) + _ = _
  grind
/-! powers, each times its share -/
def timesS (q : Rat) (s : SumT) (p : Wd × Rat) : SumT := addT s p.1 (p.2 * q)
def shareM (m : Nat) (A : SumT) : List Rat → SumT × SumT → SumT × SumT
  | [], x => x
  | q :: qs, (P, s) => shareM m A qs (toldT (joinM m P A), (toldT (joinM m P A)).foldl (timesS q) s)
theorem share_acc {N M c : Nat} (n0 : 0 < N) {q : Rat} : ∀ (B s : SumT) (k : Nat), AccL N M c 5 k s → (∀ t ∈ B, t.1.length ≤ 5 ∧ (∀ x ∈ t.1, 0 ≤ x ∧ x < (c : Int)) ∧ Bd N M (t.2 * q)) → AccL N M c 5 (k + B.length) (B.foldl (timesS q) s)
  | [], s, k, h, _ => h
  | t :: B, s, k, h, ht => by
    obtain ⟨t0, t1, t2⟩ := ht t (by simp)
    have := share_acc n0 B _ _ (h.add n0 t2 t0 t1) fun x hx => ht x (List.mem_cons_of_mem _ hx)
    rw [List.length_cons, show k + (B.length + 1) = k + 1 + B.length by omega, List.foldl_cons]
    exact this
theorem share_good {q : Rat} : ∀ (B s : SumT), Good s → Good (B.foldl (timesS q) s)
  | [], _, h => h
  | _ :: B, _, h => share_good B _ (h.add _ _)
theorem lin_share {q : Rat} {f : Wd → Rat} : ∀ (B s : SumT), Good s → linS f (B.foldl (timesS q) s) = linS f s + q * linS f B
  | [], s, h => by show linS f s = linS f s + q * 0; grind
  | t :: B, s, h => by
    rw [List.foldl_cons]
    show linS f (B.foldl (timesS q) (addT s t.1 (t.2 * q))) = _
    rw [lin_share B _ (h.add _ _)]
    show linS f (addT s t.1 (t.2 * q)) + _ = linS f s + q * (t.2 * f t.1 + linS f B)
    rw [lin_add h.nd]; grind
/-- a share: a number of few figures -/
abbrev Shr (q : Rat) : Prop := Bd 120 1 q
theorem share_bits {e1 e2 n : Nat} (hn : n ≤ 16807) : (1 + n) * (2 ^ (e1 + e2)) ≤ 1 * 2 ^ (e1 + e2 + 15) := by
  rw [Nat.one_mul, Nat.pow_add 2 (e1 + e2) 15, Nat.mul_comm]
  refine Nat.mul_le_mul_left _ (Nat.le_trans (Nat.add_le_add_left hn 1) (by decide))
/-- what stands ahead of a share's loop: one bottom for both -/
theorem share_ready {e1 e2 c : Nat} {P s : SumT} (hP : Lv e1 c P) (hs : Lv e2 c s) {q : Rat} (hq : Shr q) : ∃ N, 0 < N ∧ N < 2 ^ (e1 + e2 + 7) ∧ AccL N (2 ^ (e1 + e2)) c 5 1 s ∧ ∀ t ∈ P, Bd N (2 ^ (e1 + e2)) (t.2 * q) := by
  obtain ⟨N1, a1, b1, h1⟩ := hP
  obtain ⟨N2, a2, b2, h2⟩ := hs
  refine ⟨N1 * 120 * N2, Nat.mul_pos (Nat.mul_pos a1 (by decide)) a2, ?_, ?_, fun t ht => ?_⟩
  · have := mul_lt2 (mul_lt2 b1 (show 120 < 2 ^ 7 by decide)) b2
    rw [show e1 + e2 + 7 = e1 + 7 + e2 by omega]
    exact this
  · exact accL_lift h2 ⟨N1 * 120, Nat.mul_comm _ _⟩ (Nat.mul_le_mul_left 1 (two_le (by omega)))
  · have x := accL_at h1 ht
    rw [Nat.one_mul] at x
    have y := x.mul hq
    rw [Nat.mul_one] at y
    exact (y.mono (two_le (by omega))).lift ⟨N2, rfl⟩
theorem Lv.share {e1 e2 c : Nat} {P s : SumT} (hP : Lv e1 c P) (hs : Lv e2 c s) (c6 : c ≤ 6) {q : Rat} (hq : Shr q) : Lv (e1 + e2 + 15) c (P.foldl (timesS q) s) := by
  have lp := hP.len c6
  have wd := hP.wd
  obtain ⟨N, n0, nb, h1, h2⟩ := share_ready hP hs hq
  exact ⟨N, n0, Nat.lt_of_lt_of_le nb (two_le (by omega)), accL_lift (share_acc n0 P s 1 h1 fun t ht => ⟨(wd t ht).1, (wd t ht).2, h2 t ht⟩) (Nat.dvd_refl _) (share_bits lp)⟩
theorem share_lv {e c m : Nat} {A : SumT} (hA : Lv e c A) (c6 : c ≤ 6) (m5 : m ≤ 5) : ∀ (qs : List Rat) (a b : Nat) (P s : SumT), Lv a c P → Lv b c s → (∀ q ∈ qs, Shr q) → Lv (a + (e + 29) * qs.length) c (shareM m A qs (P, s)).1 ∧ Lv (b + (a + (e + 29) * qs.length + 15) * qs.length) c (shareM m A qs (P, s)).2
  | [], a, b, P, s, hP, hs, _ => ⟨hP, hs⟩
  | q :: qs, a, b, P, s, hP, hs, hq => by
    have h1 := (hP.join hA c6 m5).told
    have h2 := h1.share hs c6 (hq q (by simp))
    obtain ⟨r1, r2⟩ := share_lv hA c6 m5 qs _ _ _ _ h1 h2 fun x hx => hq x (List.mem_cons_of_mem _ hx)
    rw [List.length_cons]
    refine ⟨r1.mono ?_, r2.mono ?_⟩
    · rw [Nat.mul_succ]; omega
    · have : a + e + 29 + (e + 29) * qs.length = a + (e + 29) * (qs.length + 1) := by rw [Nat.mul_succ]; omega
      rw [this, Nat.mul_succ (a + (e + 29) * (qs.length + 1) + 15)]
      have : (e + 29) * 1 ≤ (e + 29) * (qs.length + 1) := Nat.mul_le_mul_left _ (by omega)
      omega
def powersM (m : Nat) (A : SumT) (qs : List Rat) : SumT := (shareM m A qs ([([], 1)], [])).2
abbrev gShr : List Rat := [1, mkRat 1 2, mkRat 1 6, mkRat 1 24, mkRat 1 120]
abbrev lShr : List Rat := [1, mkRat (-1) 2, mkRat 1 3, mkRat (-1) 4, mkRat 1 5]
def grownT (m : Nat) (A : SumT) : SumT := toldT (addT (powersM m A gShr) [] 1)
def restS (A : SumT) : SumT := A.filter fun p => decide (p.1 ≠ [])
def loggedT (m : Nat) (A : SumT) : SumT := toldT (powersM m (restS A) lShr)
theorem shr_of {q : Rat} (t : Int) (d : Nat) (hd : d ≠ 0) (e : q = mkRat t d) (h1 : d ∣ 120) (h2 : t.natAbs ≤ 1 * d) : Shr q := bd_of hd e h1 h2
theorem gShr_ok : ∀ q ∈ gShr, Shr q := by
  intro q hq
  simp only [gShr, List.mem_cons, List.not_mem_nil, or_false] at hq
  rcases hq with rfl | rfl | rfl | rfl | rfl
  · exact ⟨⟨120, rfl⟩, by decide⟩
  · exact shr_of 1 2 (by decide) rfl (by decide) (by decide)
  · exact shr_of 1 6 (by decide) rfl (by decide) (by decide)
  · exact shr_of 1 24 (by decide) rfl (by decide) (by decide)
  · exact shr_of 1 120 (by decide) rfl (by decide) (by decide)
theorem lShr_ok : ∀ q ∈ lShr, Shr q := by
  intro q hq
  simp only [lShr, List.mem_cons, List.not_mem_nil, or_false] at hq
  rcases hq with rfl | rfl | rfl | rfl | rfl
  · exact ⟨⟨120, rfl⟩, by decide⟩
  · exact shr_of (-1) 2 (by decide) rfl (by decide) (by decide)
  · exact shr_of 1 3 (by decide) rfl (by decide) (by decide)
  · exact shr_of (-1) 4 (by decide) rfl (by decide) (by decide)
  · exact shr_of 1 5 (by decide) rfl (by decide) (by decide)
theorem powers_lv {e c m : Nat} {A : SumT} (hA : Lv e c A) (c6 : c ≤ 6) (m5 : m ≤ 5) {qs : List Rat} (h5 : qs.length = 5) (hq : ∀ q ∈ qs, Shr q) : Lv (25 * e + 900) c (powersM m A qs) := by
  have h := (share_lv hA c6 m5 qs 1 1 _ _ (lv_one c) (lv_nil c) hq).2
  rw [h5] at h
  exact h.mono (by omega)
theorem Lv.add1 {e c : Nat} {s : SumT} (hs : Lv e c s) : Lv (e + 2) c (addT s [] 1) := by
  obtain ⟨N, a, b, h⟩ := hs
  have h1 : AccL N (2 ^ e) c 5 2 (addT s [] 1) := h.add a ⟨by show 1 ∣ N; exact Nat.one_dvd N, by show 1 ≤ 2 ^ e * 1; rw [Nat.mul_one]; exact Nat.pow_pos (by decide)⟩ (by decide) (by simp)
  refine ⟨N, a, Nat.lt_of_lt_of_le b (two_le (by omega)), accL_lift h1 (Nat.dvd_refl _) ?_⟩
  rw [Nat.one_mul, Nat.pow_add]
  have : 1 ≤ 2 ^ e := Nat.pow_pos (by decide)
  omega
theorem grown_lv {e c m : Nat} {A : SumT} (hA : Lv e c A) (c6 : c ≤ 6) (m5 : m ≤ 5) : Lv (25 * e + 902) c (grownT m A) := (powers_lv hA c6 m5 rfl gShr_ok).add1.told
theorem rest_lv {e c : Nat} {A : SumT} (hA : Lv e c A) : Lv e c (restS A) := by
  obtain ⟨N, a, b, h⟩ := hA
  have sub : (restS A).Sublist A := List.filter_sublist
  have gd : Good (restS A) := ⟨(sub.map _).nodup h.good.nd, fun p hp => h.good.nz p (sub.subset hp)⟩
  refine ⟨N, a, b, gd, fun w => ?_, fun p hp => h.wd p (sub.subset hp)⟩
  by_cases hw : w ∈ (restS A).map (·.1)
  · obtain ⟨p, hp, rfl⟩ := List.mem_map.mp hw
    rw [coef_at gd hp]
    exact accL_at h (sub.subset hp)
  · rw [coef_not hw]; exact bd_zero _ _
theorem logged_lv {e c m : Nat} {A : SumT} (hA : Lv e c A) (c6 : c ≤ 6) (m5 : m ≤ 5) : Lv (25 * e + 900) c (loggedT m A) := (powers_lv (rest_lv hA) c6 m5 rfl lShr_ok).told
theorem share_all_good {m : Nat} {A : SumT} : ∀ (qs : List Rat) (P s : SumT), Good s → Good (shareM m A qs (P, s)).2
  | [], _, _, h => h
  | q :: qs, P, s, h => share_all_good qs _ _ (share_good _ _ h)
theorem powers_good (m : Nat) (A : SumT) (qs : List Rat) : Good (powersM m A qs) := share_all_good qs _ _ good_nil
theorem tok_w (w : Wd) : tokL (w.map D.int) = true := by
  induction w with
  | nil => rfl
  | cons x w ih => exact ih
theorem tok_sum (a : SumT) : tokL (a.map eTerm.en) = true := by
  induction a with
  | nil => rfl
  | cons p a ih =>
    show (tokD (eTerm.en p) && tokL (a.map eTerm.en)) = true
    rw [ih]
    show ((tokL (p.1.map D.int) && (true && true)) && true) = true
    rw [tok_w]
    rfl
theorem term_en (p : Wd × Rat) : eTerm.en p = .tup [eWord.en p.1, eRat.en p.2] := rfl

abbrev bJSi : Rho → Out Fl := (sIf (tVal (eOp2 leA (eOp2 addD (eArg lenA (aCons (eVar 4) aNil)) (eArg lenA (aCons (eVar 6) aNil))) (eVar 2))) (sExpr (eCallM m_put_to 0 3 (aHoleQ 3 (aCons (eOp2 addD (eVar 4) (eVar 6)) (aCons (eCall m_times (aCons (eVar 5) (aCons (eVar 7) aNil))) aNil))))) sSkip)
abbrev bJSo : Rho → Out Fl := (sFor (iSeqA (eVar 1)) (gTup 2 (gCons (gName 6) (gCons (gName 7) gNil))) (sIf (tVal (eOp2 leA (eOp2 addD (eArg lenA (aCons (eVar 4) aNil)) (eArg lenA (aCons (eVar 6) aNil))) (eVar 2))) (sExpr (eCallM m_put_to 0 3 (aHoleQ 3 (aCons (eOp2 addD (eVar 4) (eVar 6)) (aCons (eCall m_times (aCons (eVar 5) (aCons (eVar 7) aNil))) aNil))))) sSkip))
theorem js_in {N M a c : Nat} {m : Nat} {y0 y1 : Option D} {w : Wd} {q : Rat} (n0 : 0 < N) (hN : N < 2 ^ a) (hM : M < 2 ^ a) (c6 : c ≤ 6) (a6 : a ≤ 5000000) (m5 : m ≤ 5) (hw5 : w.length ≤ 5) (hw : ∀ x ∈ w, 0 ≤ x ∧ x < (c : Int)) : ∀ (B s : SumT) (k : Nat) (y6 y7 : Option D), AccL N M c 5 k s → k + B.length ≤ 1000000000 → (∀ t ∈ B, t.1.length ≤ 5 ∧ (∀ x ∈ t.1, 0 ≤ x ∧ x < (c : Int)) ∧ Bd N M (q * t.2) ∧ m_times [eRat.en q, eRat.en t.2] = .ok (eRat.en (q * t.2), .non)) →
    ∃ z6 z7, forL (gTup 2 (gCons (gName 6) (gCons (gName 7) gNil))) bJSi (B.map eTerm.en) [y0, y1, some (.int ((m : Nat) : Int)), some (dS (s)), some (eWord.en w), some (eRat.en q), y6, y7] = .ok (.nx [y0, y1, some (.int ((m : Nat) : Int)), some (dS (B.foldl (cutS m w q) s)), some (eWord.en w), some (eRat.en q), z6, z7])
  | [], s, k, y6, y7, h, _, _ => ⟨y6, y7, rfl⟩
  | r :: B, s, k, y6, y7, h, hk, hr => by
    obtain ⟨r1, r2, r3, r4⟩ := hr r (by simp)
    rw [List.length_cons] at hk
    have a1 := addD_w w r.1 (by omega)
    have et := term_en r
    have gt : ∀ (a b : D) (ρ : Rho), (gTup 2 (gCons (gName 6) (gCons (gName 7) gNil))) (.tup [a, b]) ρ = some ((ρ.set 6 (some a)).set 7 (some b)) := fun _ _ _ => rfl
    have l1 := len_w w
    have l2 := len_w r.1
    by_cases c : w.length + r.1.length ≤ m
    · have c' : ((w.length : Nat) : Int) + ((r.1.length : Nat) : Int) ≤ ((m : Nat) : Int) := by omega
      have st : cutS m w q s r = addT s (w ++ r.1) (q * r.2) := if_pos c
      have hh : AccL N M _ 5 (k + 1) (addT s (w ++ r.1) (q * r.2)) := h.add n0 r3 (by rw [List.length_append]; omega) fun x hx => by
        rcases List.mem_append.mp hx with e | e
        · exact hw x e
        · exact r2 x e
      have p1 : m_put_to [dS s, eWord.en (w ++ r.1), eRat.en (q * r.2)] = .ok (.non, dS (addT s (w ++ r.1) (q * r.2))) := put_to_g (h.sz n0 hN hM (by omega) _) (bd_sz2 r3 n0 hN hM) (by omega) (Nat.le_trans (h.len (Nat.le_refl _) c6) (by decide))
      obtain ⟨z6, z7, e⟩ := js_in n0 hN hM c6 a6 m5 hw5 hw B _ (k + 1) (some (eWord.en r.1)) (some (eRat.en r.2)) hh (by omega) fun x hx => hr x (List.mem_cons_of_mem _ hx)
      refine ⟨z6, z7, ?_⟩
      rw [List.foldl_cons, st, ← e, List.map_cons]
      conv => lhs; unfold forL
      rw [et]
      generalize dS (addT s (w ++ r.1) (q * r.2)) = S2 at *
      generalize dS s = S1 at *
      generalize eWord.en (w ++ r.1) = W3 at *
      generalize eWord.en r.1 = W2 at *
      generalize eWord.en w = W1 at *
      generalize eRat.en (q * r.2) = Q3 at *
      generalize eRat.en r.2 = Q2 at *
      generalize eRat.en q = Q1 at *
      simp (disch := first | assumption | decide | omega) only [bJSi, runF, m0, sSeq, sSet, sIf, sRet, sRetN, sExpr, sSkip_ok, sSetA, sSetIx, sFor, sPar, sBind, sAug, eVar, eCon_ok, eOp2, eOp1, eCall, eCallM, eCallT, eTup, eLst, eArg, eIf, tVal, tNotF, tAndF, tOrF, eB, eAndF, eOrF, eNotF, eIxA, eIxO, eCatO, ixA_lst, ixA_tup, ixA_scr, eDNew, eDGet, eDGetO, eDPop, eSortK, eMM, aHoleQ, aHole, aNil_ok, aCons, oNone_ok, oSome, eSlice, eSliceL, iSeqA, iSeq, iRange, iArg, ePeek, tPeek, eOwnM, tYes_ok, bind_ok, bind_exc, bind_stuck, of_some, flatD, SW.gName, List.getD_cons_zero, List.getD_cons_succ, List.set_cons_zero, List.set_cons_succ, List.map_cons, List.map_nil, List.length_cons, List.length_nil, List.cons_append, List.nil_append, List.replicate, Nat.reduceAdd, Nat.reduceSub, addD_int, subD_int, negD_int, repD_int, modD_int, fdivD_int, ltA_int, leA_int, gtA_int, geA_int, eqD_int, neD_int, pow_10_18, pow_10_60, gt, a1, r4, p1, l1, l2, decide_eq_true c', if_true, Option.getD_some]
    · have c' : ¬ ((w.length : Nat) : Int) + ((r.1.length : Nat) : Int) ≤ ((m : Nat) : Int) := by omega
      have st : cutS m w q s r = s := if_neg c
      obtain ⟨z6, z7, e⟩ := js_in n0 hN hM c6 a6 m5 hw5 hw B s k (some (eWord.en r.1)) (some (eRat.en r.2)) h (by omega) fun x hx => hr x (List.mem_cons_of_mem _ hx)
      refine ⟨z6, z7, ?_⟩
      rw [List.foldl_cons, st, ← e, List.map_cons]
      conv => lhs; unfold forL
      rw [et]
      generalize dS s = S1 at *
      generalize eWord.en r.1 = W2 at *
      generalize eWord.en w = W1 at *
      generalize eRat.en r.2 = Q2 at *
      generalize eRat.en q = Q1 at *
      simp (disch := first | assumption | decide | omega) only [bJSi, runF, m0, sSeq, sSet, sIf, sRet, sRetN, sExpr, sSkip_ok, sSetA, sSetIx, sFor, sPar, sBind, sAug, eVar, eCon_ok, eOp2, eOp1, eCall, eCallM, eCallT, eTup, eLst, eArg, eIf, tVal, tNotF, tAndF, tOrF, eB, eAndF, eOrF, eNotF, eIxA, eIxO, eCatO, ixA_lst, ixA_tup, ixA_scr, eDNew, eDGet, eDGetO, eDPop, eSortK, eMM, aHoleQ, aHole, aNil_ok, aCons, oNone_ok, oSome, eSlice, eSliceL, iSeqA, iSeq, iRange, iArg, ePeek, tPeek, eOwnM, tYes_ok, bind_ok, bind_exc, bind_stuck, of_some, flatD, SW.gName, List.getD_cons_zero, List.getD_cons_succ, List.set_cons_zero, List.set_cons_succ, List.map_cons, List.map_nil, List.length_cons, List.length_nil, List.cons_append, List.nil_append, List.replicate, Nat.reduceAdd, Nat.reduceSub, addD_int, subD_int, negD_int, repD_int, modD_int, fdivD_int, ltA_int, leA_int, gtA_int, geA_int, eqD_int, neD_int, pow_10_18, pow_10_60, gt, l1, l2, decide_eq_false c', Bool.false_eq_true, if_false, Option.getD_some]

theorem js_out {N M a c : Nat} {m : Nat} {A0 B : SumT} (n0 : 0 < N) (hN : N < 2 ^ a) (hM : M < 2 ^ a) (c6 : c ≤ 6) (a6 : a ≤ 5000000) (m5 : m ≤ 5) : ∀ (A s : SumT) (k : Nat) (y4 y5 y6 y7 : Option D), AccL N M c 5 k s → k + A.length * B.length ≤ 1000000000 → (∀ p ∈ A, p.1.length ≤ 5 ∧ (∀ x ∈ p.1, 0 ≤ x ∧ x < (c : Int)) ∧ ∀ t ∈ B, t.1.length ≤ 5 ∧ (∀ x ∈ t.1, 0 ≤ x ∧ x < (c : Int)) ∧ Bd N M (p.2 * t.2) ∧ m_times [eRat.en p.2, eRat.en t.2] = .ok (eRat.en (p.2 * t.2), .non)) →
    ∃ z4 z5 z6 z7, forL (gTup 2 (gCons (gName 4) (gCons (gName 5) gNil))) bJSo (A.map eTerm.en) [some (eSum.en A0), some (eSum.en B), some (.int ((m : Nat) : Int)), some (dS (s)), y4, y5, y6, y7] = .ok (.nx [some (eSum.en A0), some (eSum.en B), some (.int ((m : Nat) : Int)), some (dS (A.foldl (fun s p => B.foldl (cutS m p.1 p.2) s) s)), z4, z5, z6, z7])
  | [], s, k, y4, y5, y6, y7, h, _, _ => ⟨y4, y5, y6, y7, rfl⟩
  | p :: A, s, k, y4, y5, y6, y7, h, hk, hp => by
    obtain ⟨p1, p2, p3⟩ := hp p (by simp)
    rw [List.length_cons, Nat.add_mul, Nat.one_mul] at hk
    obtain ⟨x6, x7, e1⟩ := js_in (y0 := some (eSum.en A0)) (y1 := some (eSum.en B)) (w := p.1) (q := p.2) n0 hN hM c6 a6 m5 p1 p2 B s k y6 y7 h (by omega) p3
    have h1 := cut_acc n0 m5 p2 B s k h fun t ht => ⟨(p3 t ht).2.1, (p3 t ht).2.2.1⟩
    obtain ⟨z4, z5, z6, z7, e⟩ := js_out (A0 := A0) n0 hN hM c6 a6 m5 A _ (k + B.length) (some (eWord.en p.1)) (some (eRat.en p.2)) x6 x7 h1 (by omega) fun x hx => hp x (List.mem_cons_of_mem _ hx)
    refine ⟨z4, z5, z6, z7, ?_⟩
    rw [List.foldl_cons, ← e, List.map_cons]
    conv => lhs; unfold forL
    have et := term_en p
    have gt : ∀ (a b : D) (ρ : Rho), (gTup 2 (gCons (gName 4) (gCons (gName 5) gNil))) (.tup [a, b]) ρ = some ((ρ.set 4 (some a)).set 5 (some b)) := fun _ _ _ => rfl
    have it : itemsA (eSum.en B) = some (B.map eTerm.en) := rfl
    rw [et]
    unfold bJSi at e1
    clear e h1 h
    generalize dS (B.foldl (cutS m p.1 p.2) s) = S2 at *
    generalize dS s = S1 at *
    generalize eWord.en p.1 = W1 at *
    generalize eRat.en p.2 = Q1 at *
    generalize eSum.en A0 = AA at *
    generalize eSum.en B = BB at *
    generalize B.map eTerm.en = BM at *
    simp (disch := first | assumption | decide | omega) only [bJSo, runF, m0, sSeq, sSet, sIf, sRet, sRetN, sExpr, sSkip_ok, sSetA, sSetIx, sFor, sPar, sBind, sAug, eVar, eCon_ok, eOp2, eOp1, eCall, eCallM, eCallT, eTup, eLst, eArg, eIf, tVal, tNotF, tAndF, tOrF, eB, eAndF, eOrF, eNotF, eIxA, eIxO, eCatO, ixA_lst, ixA_tup, ixA_scr, eDNew, eDGet, eDGetO, eDPop, eSortK, eMM, aHoleQ, aHole, aNil_ok, aCons, oNone_ok, oSome, eSlice, eSliceL, iSeqA, iSeq, iRange, iArg, ePeek, tPeek, eOwnM, tYes_ok, bind_ok, bind_exc, bind_stuck, of_some, flatD, SW.gName, List.getD_cons_zero, List.getD_cons_succ, List.set_cons_zero, List.set_cons_succ, List.map_cons, List.map_nil, List.length_cons, List.length_nil, List.cons_append, List.nil_append, List.replicate, Nat.reduceAdd, Nat.reduceSub, addD_int, subD_int, negD_int, repD_int, modD_int, fdivD_int, ltA_int, leA_int, gtA_int, geA_int, eqD_int, neD_int, pow_10_18, pow_10_60, gt, it, e1, Option.getD_some]
theorem js_ok {e1 e2 c : Nat} {m : Nat} {A B : SumT} (hA : Lv e1 c A) (hB : Lv e2 c B) (c6 : c ≤ 6) (m5 : m ≤ 5) (he : e1 + e2 ≤ 2000000) : m_joined_short [eSum.en A, eSum.en B, .int ((m : Nat) : Int)] = .ok (eSum.en (toldT (joinM m A B)), .non) := by
  have la := hA.len c6
  have lb := hB.len c6
  have zA := fun p hp => hA.sz (p := p) hp
  have zB := fun p hp => hB.sz (p := p) hp
  obtain ⟨N1, a1, b1, h1⟩ := hA
  obtain ⟨N2, a2, b2, h2⟩ := hB
  have n0 : 0 < N1 * N2 := Nat.mul_pos a1 a2
  have nb : N1 * N2 < 2 ^ (e1 + e2 + 1) := Nat.lt_of_lt_of_le (mul_lt2 b1 b2) (two_le (by omega))
  have mb : 2 ^ e1 * 2 ^ e2 < 2 ^ (e1 + e2 + 1) := by
    rw [← Nat.pow_add]
    exact Nat.pow_lt_pow_right (by decide) (by omega)
  obtain ⟨z4, z5, z6, z7, e⟩ := js_out (A0 := A) (B := B) (m := m) n0 nb mb c6 (by omega) m5 A [] 0 none none none none (accL_nil _ _ c 5) (by have := prod_le la lb; omega) fun p hp => ⟨(h1.wd p hp).1, (h1.wd p hp).2, fun t ht => ⟨(h2.wd t ht).1, (h2.wd t ht).2, by
    have x := accL_at h1 hp
    have y := accL_at h2 ht
    rw [Nat.one_mul] at x y
    exact x.mul y, times_ok (zA p hp) (zB t ht) (by omega)⟩⟩
  have it : itemsA (eSum.en A) = some (A.map eTerm.en) := rfl
  have en : D.dct [] = dS [] := rfl
  have e4 := told_sum_ok (joinM_good m A B)
  have tk := tok_sum (toldT (joinM m A B))
  have ej : A.foldl (fun s p => B.foldl (cutS m p.1 p.2) s) [] = joinM m A B := rfl
  rw [ej] at e
  have ed : eSum.en (toldT (joinM m A B)) = .lst ((toldT (joinM m A B)).map eTerm.en) := rfl
  rw [ed] at e4 ⊢
  clear zA zB h1 h2
  generalize (toldT (joinM m A B)).map eTerm.en = T at *
  generalize dS (joinM m A B) = DJ at *
  generalize eSum.en A = EA at *
  generalize eSum.en B = EB at *
  generalize A.map eTerm.en = AM at *
  simp (disch := first | assumption | decide | omega) only [ePeekL, tk, if_true, m_joined_short, b_joined_short, runF, m0, sSeq, sSet, sIf, sRet, sRetN, sExpr, sSkip_ok, sSetA, sSetIx, sFor, sPar, sBind, sAug, eVar, eCon_ok, eOp2, eOp1, eCall, eCallM, eCallT, eTup, eLst, eArg, eIf, tVal, tNotF, tAndF, tOrF, eB, eAndF, eOrF, eNotF, eIxA, eIxO, eCatO, ixA_lst, ixA_tup, ixA_scr, eDNew, eDGet, eDGetO, eDPop, eSortK, eMM, aHoleQ, aHole, aNil_ok, aCons, oNone_ok, oSome, eSlice, eSliceL, iSeqA, iSeq, iRange, iArg, ePeek, tPeek, eOwnM, tYes_ok, bind_ok, bind_exc, bind_stuck, of_some, flatD, SW.gName, List.getD_cons_zero, List.getD_cons_succ, List.set_cons_zero, List.set_cons_succ, List.map_cons, List.map_nil, List.length_cons, List.length_nil, List.cons_append, List.nil_append, List.replicate, Nat.reduceAdd, Nat.reduceSub, addD_int, subD_int, negD_int, repD_int, modD_int, fdivD_int, ltA_int, leA_int, gtA_int, geA_int, eqD_int, neD_int, pow_10_18, pow_10_60, en, it, e, e4]

abbrev bJSp : Rho → Out Fl := (sSeq (sSet 4 (eCall m_joined_short (aCons (eVar 4) (aCons (eVar 0) (aCons (eVar 2) aNil))))) (sFor (iSeqA (eVar 4)) (gTup 2 (gCons (gName 6) (gCons (gName 7) gNil))) (sExpr (eCallM m_put_to 0 3 (aHoleQ 3 (aCons (eVar 6) (aCons (eCall m_times (aCons (eVar 7) (aCons (eVar 5) aNil))) aNil)))))))
abbrev bJSq : Rho → Out Fl := (sExpr (eCallM m_put_to 0 3 (aHoleQ 3 (aCons (eVar 6) (aCons (eCall m_times (aCons (eVar 7) (aCons (eVar 5) aNil))) aNil)))))
theorem js_share {N M a c : Nat} {y0 y1 y2 y4 : Option D} {q : Rat} (n0 : 0 < N) (hN : N < 2 ^ a) (hM : M < 2 ^ a) (c6 : c ≤ 6) (a6 : a ≤ 5000000) : ∀ (B s : SumT) (k : Nat) (y6 y7 : Option D), AccL N M c 5 k s → k + B.length ≤ 1000000000 → (∀ t ∈ B, t.1.length ≤ 5 ∧ (∀ x ∈ t.1, 0 ≤ x ∧ x < (c : Int)) ∧ Bd N M (t.2 * q) ∧ m_times [eRat.en t.2, eRat.en q] = .ok (eRat.en (t.2 * q), .non)) →
    ∃ z6 z7, forL (gTup 2 (gCons (gName 6) (gCons (gName 7) gNil))) bJSq (B.map eTerm.en) [y0, y1, y2, some (dS (s)), y4, some (eRat.en q), y6, y7] = .ok (.nx [y0, y1, y2, some (dS (B.foldl (timesS q) s)), y4, some (eRat.en q), z6, z7])
  | [], s, k, y6, y7, h, _, _ => ⟨y6, y7, rfl⟩
  | r :: B, s, k, y6, y7, h, hk, hr => by
    obtain ⟨r1, r2, r3, r4⟩ := hr r (by simp)
    rw [List.length_cons] at hk
    have et := term_en r
    have gt : ∀ (a b : D) (ρ : Rho), (gTup 2 (gCons (gName 6) (gCons (gName 7) gNil))) (.tup [a, b]) ρ = some ((ρ.set 6 (some a)).set 7 (some b)) := fun _ _ _ => rfl
    have st : timesS q s r = addT s r.1 (r.2 * q) := rfl
    have hh : AccL N M _ 5 (k + 1) (addT s r.1 (r.2 * q)) := h.add n0 r3 r1 r2
    have p1 : m_put_to [dS s, eWord.en r.1, eRat.en (r.2 * q)] = .ok (.non, dS (addT s r.1 (r.2 * q))) := put_to_g (h.sz n0 hN hM (by omega) _) (bd_sz2 r3 n0 hN hM) (by omega) (Nat.le_trans (h.len (Nat.le_refl _) c6) (by decide))
    obtain ⟨z6, z7, e⟩ := js_share n0 hN hM c6 a6 B _ (k + 1) (some (eWord.en r.1)) (some (eRat.en r.2)) hh (by omega) fun x hx => hr x (List.mem_cons_of_mem _ hx)
    refine ⟨z6, z7, ?_⟩
    rw [List.foldl_cons, st, ← e, List.map_cons]
    conv => lhs; unfold forL
    rw [et]
    generalize dS (addT s r.1 (r.2 * q)) = S2 at *
    generalize dS s = S1 at *
    generalize eWord.en r.1 = W2 at *
    generalize eRat.en (r.2 * q) = Q3 at *
    generalize eRat.en r.2 = Q2 at *
    generalize eRat.en q = Q1 at *
    simp (disch := first | assumption | decide | omega) only [bJSq, runF, m0, sSeq, sSet, sIf, sRet, sRetN, sExpr, sSkip_ok, sSetA, sSetIx, sFor, sPar, sBind, sAug, eVar, eCon_ok, eOp2, eOp1, eCall, eCallM, eCallT, eTup, eLst, eArg, eIf, tVal, tNotF, tAndF, tOrF, eB, eAndF, eOrF, eNotF, eIxA, eIxO, eCatO, ixA_lst, ixA_tup, ixA_scr, eDNew, eDGet, eDGetO, eDPop, eSortK, eMM, aHoleQ, aHole, aNil_ok, aCons, oNone_ok, oSome, eSlice, eSliceL, iSeqA, iSeq, iRange, iArg, ePeek, tPeek, eOwnM, tYes_ok, bind_ok, bind_exc, bind_stuck, of_some, flatD, SW.gName, List.getD_cons_zero, List.getD_cons_succ, List.set_cons_zero, List.set_cons_succ, List.map_cons, List.map_nil, List.length_cons, List.length_nil, List.cons_append, List.nil_append, List.replicate, Nat.reduceAdd, Nat.reduceSub, addD_int, subD_int, negD_int, repD_int, modD_int, fdivD_int, ltA_int, leA_int, gtA_int, geA_int, eqD_int, neD_int, pow_10_18, pow_10_60, gt, r4, p1, Option.getD_some]
theorem shr_sz {q : Rat} (h : Shr q) : Sz 8 q := h.sz (by decide) (by decide) (by decide)
theorem js_pows {e c : Nat} {m : Nat} {A : SumT} {y1 : Option D} (hA : Lv e c A) (c6 : c ≤ 6) (m5 : m ≤ 5) : ∀ (qs : List Rat) (a b : Nat) (P s : SumT) (y5 y6 y7 : Option D), Lv a c P → Lv b c s → (∀ q ∈ qs, Shr q) → b + (a + (e + 29) * qs.length + 15) * qs.length + a + (e + 29) * qs.length ≤ 1000000 →
    ∃ z5 z6 z7, forL (SW.gName 5) bJSp (qs.map eRat.en) [some (eSum.en A), y1, some (.int ((m : Nat) : Int)), some (dS (s)), some (eSum.en (P)), y5, y6, y7] = .ok (.nx [some (eSum.en A), y1, some (.int ((m : Nat) : Int)), some (dS ((shareM m A qs (P, s)).2)), some (eSum.en ((shareM m A qs (P, s)).1)), z5, z6, z7])
  | [], a, b, P, s, y5, y6, y7, _, _, _, _ => ⟨y5, y6, y7, rfl⟩
  | q :: qs, a, b, P, s, y5, y6, y7, hP, hs, hq, hb => by
    have q0 := hq q (by simp)
    rw [List.length_cons, Nat.mul_succ, Nat.mul_succ] at hb
    have e1 := js_ok (A := P) (B := A) hP hA c6 m5 (by omega)
    have h1 := (hP.join hA c6 m5).told
    have h2 := h1.share hs c6 q0
    have l1 := h1.len c6
    have w1 := h1.wd
    have z1 := fun p hp => h1.sz (p := p) hp
    obtain ⟨N, n0, nb, r1, r2⟩ := share_ready h1 hs q0
    obtain ⟨x6, x7, e2⟩ := js_share (y0 := some (eSum.en A)) (y1 := y1) (y2 := some (.int ((m : Nat) : Int))) (y4 := some (eSum.en (toldT (joinM m P A)))) (q := q) n0 nb (Nat.pow_lt_pow_right (by decide) (by omega) : 2 ^ (a + e + 29 + b) < 2 ^ (a + e + 29 + b + 7)) c6 (by omega) (toldT (joinM m P A)) s 1 y6 y7 r1 (by omega) fun t ht => ⟨(w1 t ht).1, (w1 t ht).2, r2 t ht, times_ok (z1 t ht) (shr_sz q0) (by omega)⟩
    have hb2 : b + (a + e + 29) + 15 ≤ 2000000 := by omega
    obtain ⟨z5, z6, z7, e3⟩ := js_pows (y1 := y1) hA c6 m5 qs _ _ _ _ (some (eRat.en q)) x6 x7 h1 h2 (fun x hx => hq x (List.mem_cons_of_mem _ hx)) (by
      have : a + e + 29 + (e + 29) * qs.length = a + ((e + 29) * qs.length + (e + 29)) := by omega
      rw [this]
      omega)
    refine ⟨z5, z6, z7, ?_⟩
    have es : shareM m A (q :: qs) (P, s) = shareM m A qs (toldT (joinM m P A), (toldT (joinM m P A)).foldl (timesS q) s) := rfl
    rw [es, ← e3, List.map_cons]
    conv => lhs; unfold forL
    have it : itemsA (eSum.en (toldT (joinM m P A))) = some ((toldT (joinM m P A)).map eTerm.en) := rfl
    have gt : ∀ (d : D) (ρ : Rho), (SW.gName 5) d ρ = some (ρ.set 5 (some d)) := fun _ _ => rfl
    unfold bJSq at e2
    clear e3 es r1 r2 h1 h2 z1 w1
    generalize dS ((toldT (joinM m P A)).foldl (timesS q) s) = S2 at *
    generalize dS s = S1 at *
    generalize (toldT (joinM m P A)).map eTerm.en = TM at *
    generalize eSum.en (toldT (joinM m P A)) = T at *
    generalize eSum.en P = PP at *
    generalize eSum.en A = AA at *
    generalize eRat.en q = Q1 at *
    simp (disch := first | assumption | decide | omega) only [bJSp, runF, m0, sSeq, sSet, sIf, sRet, sRetN, sExpr, sSkip_ok, sSetA, sSetIx, sFor, sPar, sBind, sAug, eVar, eCon_ok, eOp2, eOp1, eCall, eCallM, eCallT, eTup, eLst, eArg, eIf, tVal, tNotF, tAndF, tOrF, eB, eAndF, eOrF, eNotF, eIxA, eIxO, eCatO, ixA_lst, ixA_tup, ixA_scr, eDNew, eDGet, eDGetO, eDPop, eSortK, eMM, aHoleQ, aHole, aNil_ok, aCons, oNone_ok, oSome, eSlice, eSliceL, iSeqA, iSeq, iRange, iArg, ePeek, tPeek, eOwnM, tYes_ok, bind_ok, bind_exc, bind_stuck, of_some, flatD, SW.gName, List.getD_cons_zero, List.getD_cons_succ, List.set_cons_zero, List.set_cons_succ, List.map_cons, List.map_nil, List.length_cons, List.length_nil, List.cons_append, List.nil_append, List.replicate, Nat.reduceAdd, Nat.reduceSub, addD_int, subD_int, negD_int, repD_int, modD_int, fdivD_int, ltA_int, leA_int, gtA_int, geA_int, eqD_int, neD_int, pow_10_18, pow_10_60, gt, e1, it, e2, Option.getD_some]
theorem js_powers {e c : Nat} {m : Nat} {A : SumT} (hA : Lv e c A) (c6 : c ≤ 6) (m5 : m ≤ 5) (he : e ≤ 20000) {qs : List Rat} (h5 : qs.length = 5) (hq : ∀ q ∈ qs, Shr q) : m_added_up [eSum.en A, .lst (qs.map eRat.en), .int ((m : Nat) : Int)] = .ok (dS (powersM m A qs), .non) := by
  obtain ⟨z5, z6, z7, e⟩ := js_pows (y1 := some (.lst (qs.map eRat.en))) hA c6 m5 qs 1 1 [([], 1)] [] none none none (lv_one c) (lv_nil c) hq (by rw [h5]; omega)
  have it : itemsA (.lst (qs.map eRat.en)) = some (qs.map eRat.en) := rfl
  have en : D.dct [] = dS [] := rfl
  have p0 : eSum.en [([], 1)] = .lst [.tup [.tup [], .tup [.int 1, .int 1]]] := rfl
  have ko : k_ONE = .tup [.int 1, .int 1] := rfl
  rw [p0] at e
  have ej : (shareM m A qs ([([], 1)], [])).2 = powersM m A qs := rfl
  rw [ej] at e
  unfold bJSp at e
  generalize dS (powersM m A qs) = DP at *
  generalize eSum.en (shareM m A qs ([([], 1)], [])).1 = PP at *
  generalize eSum.en A = AA at *
  generalize qs.map eRat.en = QM at *
  simp (disch := first | assumption | decide | omega) only [m_added_up, b_added_up, runF, m0, sSeq, sSet, sIf, sRet, sRetN, sExpr, sSkip_ok, sSetA, sSetIx, sFor, sPar, sBind, sAug, eVar, eCon_ok, eOp2, eOp1, eCall, eCallM, eCallT, eTup, eLst, eArg, eIf, tVal, tNotF, tAndF, tOrF, eB, eAndF, eOrF, eNotF, eIxA, eIxO, eCatO, ixA_lst, ixA_tup, ixA_scr, eDNew, eDGet, eDGetO, eDPop, eSortK, eMM, aHoleQ, aHole, aNil_ok, aCons, oNone_ok, oSome, eSlice, eSliceL, iSeqA, iSeq, iRange, iArg, ePeek, tPeek, eOwnM, tYes_ok, bind_ok, bind_exc, bind_stuck, of_some, flatD, SW.gName, List.getD_cons_zero, List.getD_cons_succ, List.set_cons_zero, List.set_cons_succ, List.map_cons, List.map_nil, List.length_cons, List.length_nil, List.cons_append, List.nil_append, List.replicate, Nat.reduceAdd, Nat.reduceSub, addD_int, subD_int, negD_int, repD_int, modD_int, fdivD_int, ltA_int, leA_int, gtA_int, geA_int, eqD_int, neD_int, pow_10_18, pow_10_60, en, it, ko, e, Option.getD_some]

/-! grown, logged -/
theorem fraction_ok (t : Int) {d : Nat} (hd : d ≠ 0) : m_fraction [.int t, .int ((d : Nat) : Int)] = .ok (eRat.en (mkRat t d), .non) := by
  have e1 := lowest_ok t hd
  have d0 : ¬ ((d : Nat) : Int) = 0 := by omega
  simp (disch := first | assumption | decide | omega) only [m_fraction, b_fraction, runF, m0, sSeq, sSet, sIf, sRet, sRetN, sExpr, sSkip_ok, sSetA, sSetIx, sFor, sPar, sBind, sAug, eVar, eCon_ok, eOp2, eOp1, eCall, eCallM, eCallT, eTup, eLst, eArg, eIf, tVal, tNotF, tAndF, tOrF, eB, eAndF, eOrF, eNotF, eIxA, eIxO, eCatO, ixA_lst, ixA_tup, ixA_scr, eDNew, eDGet, eDGetO, eDPop, eSortK, eMM, aHoleQ, aHole, aNil_ok, aCons, oNone_ok, oSome, eSlice, eSliceL, iSeqA, iSeq, iRange, iArg, ePeek, tPeek, eOwnM, tYes_ok, bind_ok, bind_exc, bind_stuck, of_some, flatD, SW.gName, List.getD_cons_zero, List.getD_cons_succ, List.set_cons_zero, List.set_cons_succ, List.map_cons, List.map_nil, List.length_cons, List.length_nil, List.cons_append, List.nil_append, List.replicate, Nat.reduceAdd, Nat.reduceSub, addD_int, subD_int, negD_int, repD_int, modD_int, fdivD_int, ltA_int, leA_int, gtA_int, geA_int, eqD_int, neD_int, pow_10_18, pow_10_60, decide_eq_false d0, Bool.false_eq_true, if_false, e1]
theorem gShr_en : gShr.map eRat.en = [.tup [.int 1, .int 1], eRat.en (mkRat 1 2), eRat.en (mkRat 1 6), eRat.en (mkRat 1 24), eRat.en (mkRat 1 120)] := rfl
theorem put_one {e c : Nat} {s : SumT} (hs : Lv e c s) (c6 : c ≤ 6) (he : e ≤ 10000000) : m_put_to [dS s, .tup [], .tup [.int 1, .int 1]] = .ok (.non, dS (addT s [] 1)) := by
  have l := hs.len c6
  obtain ⟨N, a, b, h⟩ := hs
  have z := h.sz a (Nat.lt_of_lt_of_le b (two_le (by omega : e ≤ e + 1))) (Nat.pow_lt_pow_right (by decide) (by omega) : 2 ^ e < 2 ^ (e + 1)) (by decide) []
  exact put_to_g (w := []) (q := 1) z (i := 2 * (e + 1) + 30) (j := 8) (shr_sz ⟨⟨120, rfl⟩, by decide⟩) (by omega) (by omega)
theorem grown_short_ok {e c m : Nat} {A : SumT} (hA : Lv e c A) (c6 : c ≤ 6) (m5 : m ≤ 5) (he : e ≤ 20000) : m_grown_short [eSum.en A, .int ((m : Nat) : Int)] = .ok (eSum.en (grownT m A), .non) := by
  have e1 := js_powers (m := m) hA c6 m5 he (qs := gShr) rfl gShr_ok
  have e2 := put_one (powers_lv (m := m) hA c6 m5 (qs := gShr) rfl gShr_ok) c6 (by omega)
  have e3 := told_sum_ok ((powers_good m A gShr).add [] 1)
  have tk := tok_sum (toldT (addT (powersM m A gShr) [] 1))
  have f1 := fraction_ok 1 (d := 1) (by decide)
  have f2 := fraction_ok 1 (d := 2) (by decide)
  have f3 := fraction_ok 1 (d := 6) (by decide)
  have f4 := fraction_ok 1 (d := 24) (by decide)
  have f5 := fraction_ok 1 (d := 120) (by decide)
  have f1 : m_fraction [.int 1, .int 1] = .ok (.tup [.int 1, .int 1], .non) := f1
  have f2 : m_fraction [.int 1, .int 2] = .ok (eRat.en (mkRat 1 2), .non) := f2
  have f3 : m_fraction [.int 1, .int 6] = .ok (eRat.en (mkRat 1 6), .non) := f3
  have f4 : m_fraction [.int 1, .int 24] = .ok (eRat.en (mkRat 1 24), .non) := f4
  have f5 : m_fraction [.int 1, .int 120] = .ok (eRat.en (mkRat 1 120), .non) := f5
  have ce := fun (AA MM : D) => compL_of (vs := [3]) (b := gName 3) (tt := tYesF) (fe := (eCall m_fraction (aCons (eCon (.int 1)) (aCons (eVar 3) aNil)))) (f := fun x : Int × D => D.int x.1) (ρ := [some AA, some MM, none, none]) (c := fun _ => true) (h := fun x : Int × D => x.2) [(1, .tup [.int 1, .int 1]), (2, eRat.en (mkRat 1 2)), (6, eRat.en (mkRat 1 6)), (24, eRat.en (mkRat 1 24)), (120, eRat.en (mkRat 1 120))] (by
    intro x hx
    refine ⟨[some AA, some MM, none, some (.int x.1)], rfl, [some AA, some MM, none, some (.int x.1)], rfl, (fun z => by cases z), fun _ => ⟨[some AA, some MM, none, some (.int x.1)], ?_, rfl⟩⟩
    simp only [List.mem_cons, List.not_mem_nil, or_false] at hx
    rcases hx with rfl | rfl | rfl | rfl | rfl
    · simp (disch := first | assumption | decide | omega) only [runF, m0, sSeq, sSet, sIf, sRet, sRetN, sExpr, sSkip_ok, sSetA, sSetIx, sFor, sPar, sBind, sAug, eVar, eCon_ok, eOp2, eOp1, eCall, eCallM, eCallT, eTup, eLst, eArg, eIf, tVal, tNotF, tAndF, tOrF, eB, eAndF, eOrF, eNotF, eIxA, eIxO, eCatO, ixA_lst, ixA_tup, ixA_scr, eDNew, eDGet, eDGetO, eDPop, eSortK, eMM, aHoleQ, aHole, aNil_ok, aCons, oNone_ok, oSome, eSlice, eSliceL, iSeqA, iSeq, iRange, iArg, ePeek, tPeek, eOwnM, tYes_ok, bind_ok, bind_exc, bind_stuck, of_some, flatD, SW.gName, List.getD_cons_zero, List.getD_cons_succ, List.set_cons_zero, List.set_cons_succ, List.map_cons, List.map_nil, List.length_cons, List.length_nil, List.cons_append, List.nil_append, List.replicate, Nat.reduceAdd, Nat.reduceSub, addD_int, subD_int, negD_int, repD_int, modD_int, fdivD_int, ltA_int, leA_int, gtA_int, geA_int, eqD_int, neD_int, pow_10_18, pow_10_60, f1]
    · simp (disch := first | assumption | decide | omega) only [runF, m0, sSeq, sSet, sIf, sRet, sRetN, sExpr, sSkip_ok, sSetA, sSetIx, sFor, sPar, sBind, sAug, eVar, eCon_ok, eOp2, eOp1, eCall, eCallM, eCallT, eTup, eLst, eArg, eIf, tVal, tNotF, tAndF, tOrF, eB, eAndF, eOrF, eNotF, eIxA, eIxO, eCatO, ixA_lst, ixA_tup, ixA_scr, eDNew, eDGet, eDGetO, eDPop, eSortK, eMM, aHoleQ, aHole, aNil_ok, aCons, oNone_ok, oSome, eSlice, eSliceL, iSeqA, iSeq, iRange, iArg, ePeek, tPeek, eOwnM, tYes_ok, bind_ok, bind_exc, bind_stuck, of_some, flatD, SW.gName, List.getD_cons_zero, List.getD_cons_succ, List.set_cons_zero, List.set_cons_succ, List.map_cons, List.map_nil, List.length_cons, List.length_nil, List.cons_append, List.nil_append, List.replicate, Nat.reduceAdd, Nat.reduceSub, addD_int, subD_int, negD_int, repD_int, modD_int, fdivD_int, ltA_int, leA_int, gtA_int, geA_int, eqD_int, neD_int, pow_10_18, pow_10_60, f2]
    · simp (disch := first | assumption | decide | omega) only [runF, m0, sSeq, sSet, sIf, sRet, sRetN, sExpr, sSkip_ok, sSetA, sSetIx, sFor, sPar, sBind, sAug, eVar, eCon_ok, eOp2, eOp1, eCall, eCallM, eCallT, eTup, eLst, eArg, eIf, tVal, tNotF, tAndF, tOrF, eB, eAndF, eOrF, eNotF, eIxA, eIxO, eCatO, ixA_lst, ixA_tup, ixA_scr, eDNew, eDGet, eDGetO, eDPop, eSortK, eMM, aHoleQ, aHole, aNil_ok, aCons, oNone_ok, oSome, eSlice, eSliceL, iSeqA, iSeq, iRange, iArg, ePeek, tPeek, eOwnM, tYes_ok, bind_ok, bind_exc, bind_stuck, of_some, flatD, SW.gName, List.getD_cons_zero, List.getD_cons_succ, List.set_cons_zero, List.set_cons_succ, List.map_cons, List.map_nil, List.length_cons, List.length_nil, List.cons_append, List.nil_append, List.replicate, Nat.reduceAdd, Nat.reduceSub, addD_int, subD_int, negD_int, repD_int, modD_int, fdivD_int, ltA_int, leA_int, gtA_int, geA_int, eqD_int, neD_int, pow_10_18, pow_10_60, f3]
    · simp (disch := first | assumption | decide | omega) only [runF, m0, sSeq, sSet, sIf, sRet, sRetN, sExpr, sSkip_ok, sSetA, sSetIx, sFor, sPar, sBind, sAug, eVar, eCon_ok, eOp2, eOp1, eCall, eCallM, eCallT, eTup, eLst, eArg, eIf, tVal, tNotF, tAndF, tOrF, eB, eAndF, eOrF, eNotF, eIxA, eIxO, eCatO, ixA_lst, ixA_tup, ixA_scr, eDNew, eDGet, eDGetO, eDPop, eSortK, eMM, aHoleQ, aHole, aNil_ok, aCons, oNone_ok, oSome, eSlice, eSliceL, iSeqA, iSeq, iRange, iArg, ePeek, tPeek, eOwnM, tYes_ok, bind_ok, bind_exc, bind_stuck, of_some, flatD, SW.gName, List.getD_cons_zero, List.getD_cons_succ, List.set_cons_zero, List.set_cons_succ, List.map_cons, List.map_nil, List.length_cons, List.length_nil, List.cons_append, List.nil_append, List.replicate, Nat.reduceAdd, Nat.reduceSub, addD_int, subD_int, negD_int, repD_int, modD_int, fdivD_int, ltA_int, leA_int, gtA_int, geA_int, eqD_int, neD_int, pow_10_18, pow_10_60, f4]
    · simp (disch := first | assumption | decide | omega) only [runF, m0, sSeq, sSet, sIf, sRet, sRetN, sExpr, sSkip_ok, sSetA, sSetIx, sFor, sPar, sBind, sAug, eVar, eCon_ok, eOp2, eOp1, eCall, eCallM, eCallT, eTup, eLst, eArg, eIf, tVal, tNotF, tAndF, tOrF, eB, eAndF, eOrF, eNotF, eIxA, eIxO, eCatO, ixA_lst, ixA_tup, ixA_scr, eDNew, eDGet, eDGetO, eDPop, eSortK, eMM, aHoleQ, aHole, aNil_ok, aCons, oNone_ok, oSome, eSlice, eSliceL, iSeqA, iSeq, iRange, iArg, ePeek, tPeek, eOwnM, tYes_ok, bind_ok, bind_exc, bind_stuck, of_some, flatD, SW.gName, List.getD_cons_zero, List.getD_cons_succ, List.set_cons_zero, List.set_cons_succ, List.map_cons, List.map_nil, List.length_cons, List.length_nil, List.cons_append, List.nil_append, List.replicate, Nat.reduceAdd, Nat.reduceSub, addD_int, subD_int, negD_int, repD_int, modD_int, fdivD_int, ltA_int, leA_int, gtA_int, geA_int, eqD_int, neD_int, pow_10_18, pow_10_60, f5])
  have ce := fun (AA MM : D) => by
    have h := ce AA MM
    rw [List.filter_eq_self.mpr fun a _ => rfl] at h
    exact h
  simp only [List.map_cons, List.map_nil] at ce
  have it : itemsA (.tup [.int 1, .int 2, .int 6, .int 24, .int 120]) = some [.int 1, .int 2, .int 6, .int 24, .int 120] := rfl
  rw [gShr_en] at e1
  have ko : k_ONE = .tup [.int 1, .int 1] := rfl
  have eg : eSum.en (grownT m A) = .lst ((toldT (addT (powersM m A gShr) [] 1)).map eTerm.en) := rfl
  have ed : eSum.en (toldT (addT (powersM m A gShr) [] 1)) = .lst ((toldT (addT (powersM m A gShr) [] 1)).map eTerm.en) := rfl
  rw [eg]
  rw [ed] at e3
  generalize (toldT (addT (powersM m A gShr) [] 1)).map eTerm.en = T at *
  generalize dS (addT (powersM m A gShr) [] 1) = D2 at *
  generalize dS (powersM m A gShr) = D1 at *
  generalize eSum.en A = AA at *
  generalize eRat.en (mkRat 1 2) = q2 at *
  generalize eRat.en (mkRat 1 6) = q3 at *
  generalize eRat.en (mkRat 1 24) = q4 at *
  generalize eRat.en (mkRat 1 120) = q5 at *
  simp (disch := first | assumption | decide | omega) only [ePeekL, tk, if_true, m_grown_short, b_grown_short, runF, m0, sSeq, sSet, sIf, sRet, sRetN, sExpr, sSkip_ok, sSetA, sSetIx, sFor, sPar, sBind, sAug, eVar, eCon_ok, eOp2, eOp1, eCall, eCallM, eCallT, eTup, eLst, eArg, eIf, tVal, tNotF, tAndF, tOrF, eB, eAndF, eOrF, eNotF, eIxA, eIxO, eCatO, ixA_lst, ixA_tup, ixA_scr, eDNew, eDGet, eDGetO, eDPop, eSortK, eMM, aHoleQ, aHole, aNil_ok, aCons, oNone_ok, oSome, eSlice, eSliceL, iSeqA, iSeq, iRange, iArg, ePeek, tPeek, eOwnM, tYes_ok, bind_ok, bind_exc, bind_stuck, of_some, flatD, SW.gName, List.getD_cons_zero, List.getD_cons_succ, List.set_cons_zero, List.set_cons_succ, List.map_cons, List.map_nil, List.length_cons, List.length_nil, List.cons_append, List.nil_append, List.replicate, Nat.reduceAdd, Nat.reduceSub, addD_int, subD_int, negD_int, repD_int, modD_int, fdivD_int, ltA_int, leA_int, gtA_int, geA_int, eqD_int, neD_int, pow_10_18, pow_10_60, it, eComp, ce, e1, ko, e2, e3, Option.getD_some]
theorem ne_nil_w (w : Wd) : neD (eWord.en w) (.tup []) = some (.bl (decide (w ≠ []))) := by
  have := neD_enc eWord (by decide) w []
  rw [decide_not]
  exact this
theorem lShr_en : lShr.map eRat.en = [.tup [.int 1, .int 1], .tup [.int (-1), .int 2], .tup [.int 1, .int 3], .tup [.int (-1), .int 4], .tup [.int 1, .int 5]] := by
  have a : eRat.en (mkRat (-1) 2) = .tup [.int (-1), .int 2] := rat_en (by decide +kernel) (by decide +kernel)
  have b : eRat.en (mkRat 1 3) = .tup [.int 1, .int 3] := rat_en (by decide +kernel) (by decide +kernel)
  have c : eRat.en (mkRat (-1) 4) = .tup [.int (-1), .int 4] := rat_en (by decide +kernel) (by decide +kernel)
  have d : eRat.en (mkRat 1 5) = .tup [.int 1, .int 5] := rat_en (by decide +kernel) (by decide +kernel)
  show [eRat.en 1, eRat.en (mkRat (-1) 2), eRat.en (mkRat 1 3), eRat.en (mkRat (-1) 4), eRat.en (mkRat 1 5)] = _
  rw [a, b, c, d]
  rfl
theorem logged_short_ok {e c m : Nat} {A : SumT} (hA : Lv e c A) (c6 : c ≤ 6) (m5 : m ≤ 5) (he : e ≤ 20000) : m_logged_short [eSum.en A, .int ((m : Nat) : Int)] = .ok (eSum.en (loggedT m A), .non) := by
  have e1 := js_powers (m := m) (rest_lv hA) c6 m5 he (qs := lShr) rfl lShr_ok
  have e3 := told_sum_ok (powers_good m (restS A) lShr)
  have ce := compL_of (vs := [3, 4]) (b := gTup 2 (gCons (gName 3) (gCons (gName 4) gNil))) (tt := (tVal (eOp2 neD (eVar 3) (eTup aNil)))) (fe := (eTup (aCons (eVar 3) (aCons (eVar 4) aNil)))) (f := eTerm.en) (ρ := [some (eSum.en A), some (.int ((m : Nat) : Int)), none, none, none]) (c := fun p => decide (p.1 ≠ [])) (h := eTerm.en) A (by
    intro p hp
    have n1 := ne_nil_w p.1
    have et := term_en p
    refine ⟨[some (eSum.en A), some (.int ((m : Nat) : Int)), none, some (eWord.en p.1), some (eRat.en p.2)], rfl, [some (eSum.en A), some (.int ((m : Nat) : Int)), none, some (eWord.en p.1), some (eRat.en p.2)], ?_, (fun _ => rfl), fun _ => ⟨[some (eSum.en A), some (.int ((m : Nat) : Int)), none, some (eWord.en p.1), some (eRat.en p.2)], ?_, rfl⟩⟩
    · simp (disch := first | assumption | decide | omega) only [runF, m0, sSeq, sSet, sIf, sRet, sRetN, sExpr, sSkip_ok, sSetA, sSetIx, sFor, sPar, sBind, sAug, eVar, eCon_ok, eOp2, eOp1, eCall, eCallM, eCallT, eTup, eLst, eArg, eIf, tVal, tNotF, tAndF, tOrF, eB, eAndF, eOrF, eNotF, eIxA, eIxO, eCatO, ixA_lst, ixA_tup, ixA_scr, eDNew, eDGet, eDGetO, eDPop, eSortK, eMM, aHoleQ, aHole, aNil_ok, aCons, oNone_ok, oSome, eSlice, eSliceL, iSeqA, iSeq, iRange, iArg, ePeek, tPeek, eOwnM, tYes_ok, bind_ok, bind_exc, bind_stuck, of_some, flatD, SW.gName, List.getD_cons_zero, List.getD_cons_succ, List.set_cons_zero, List.set_cons_succ, List.map_cons, List.map_nil, List.length_cons, List.length_nil, List.cons_append, List.nil_append, List.replicate, Nat.reduceAdd, Nat.reduceSub, addD_int, subD_int, negD_int, repD_int, modD_int, fdivD_int, ltA_int, leA_int, gtA_int, geA_int, eqD_int, neD_int, pow_10_18, pow_10_60, n1]
    · rw [et]
      simp (disch := first | assumption | decide | omega) only [runF, m0, sSeq, sSet, sIf, sRet, sRetN, sExpr, sSkip_ok, sSetA, sSetIx, sFor, sPar, sBind, sAug, eVar, eCon_ok, eOp2, eOp1, eCall, eCallM, eCallT, eTup, eLst, eArg, eIf, tVal, tNotF, tAndF, tOrF, eB, eAndF, eOrF, eNotF, eIxA, eIxO, eCatO, ixA_lst, ixA_tup, ixA_scr, eDNew, eDGet, eDGetO, eDPop, eSortK, eMM, aHoleQ, aHole, aNil_ok, aCons, oNone_ok, oSome, eSlice, eSliceL, iSeqA, iSeq, iRange, iArg, ePeek, tPeek, eOwnM, tYes_ok, bind_ok, bind_exc, bind_stuck, of_some, flatD, SW.gName, List.getD_cons_zero, List.getD_cons_succ, List.set_cons_zero, List.set_cons_succ, List.map_cons, List.map_nil, List.length_cons, List.length_nil, List.cons_append, List.nil_append, List.replicate, Nat.reduceAdd, Nat.reduceSub, addD_int, subD_int, negD_int, repD_int, modD_int, fdivD_int, ltA_int, leA_int, gtA_int, geA_int, eqD_int, neD_int, pow_10_18, pow_10_60])
  have it : itemsA (eSum.en A) = some (A.map eTerm.en) := rfl
  have er : D.lst ((restS A).map eTerm.en) = eSum.en (restS A) := rfl
  have ef : A.filter (fun p => decide (p.1 ≠ [])) = restS A := rfl
  rw [ef] at ce
  rw [lShr_en] at e1
  have ng : negD (.int 1) = some (.int (-1)) := rfl
  have el : eSum.en (loggedT m A) = eSum.en (toldT (powersM m (restS A) lShr)) := rfl
  rw [el]
  generalize eSum.en (toldT (powersM m (restS A) lShr)) = T at *
  generalize dS (powersM m (restS A) lShr) = D1 at *
  generalize (restS A).map eTerm.en = RM at *
  generalize A.map eTerm.en = AM at *
  generalize eSum.en (restS A) = RR at *
  generalize eSum.en A = AA at *
  simp (disch := first | assumption | decide | omega) only [m_logged_short, b_logged_short, runF, m0, sSeq, sSet, sIf, sRet, sRetN, sExpr, sSkip_ok, sSetA, sSetIx, sFor, sPar, sBind, sAug, eVar, eCon_ok, eOp2, eOp1, eCall, eCallM, eCallT, eTup, eLst, eArg, eIf, tVal, tNotF, tAndF, tOrF, eB, eAndF, eOrF, eNotF, eIxA, eIxO, eCatO, ixA_lst, ixA_tup, ixA_scr, eDNew, eDGet, eDGetO, eDPop, eSortK, eMM, aHoleQ, aHole, aNil_ok, aCons, oNone_ok, oSome, eSlice, eSliceL, iSeqA, iSeq, iRange, iArg, ePeek, tPeek, eOwnM, tYes_ok, bind_ok, bind_exc, bind_stuck, of_some, flatD, SW.gName, List.getD_cons_zero, List.getD_cons_succ, List.set_cons_zero, List.set_cons_succ, List.map_cons, List.map_nil, List.length_cons, List.length_nil, List.cons_append, List.nil_append, List.replicate, Nat.reduceAdd, Nat.reduceSub, addD_int, subD_int, negD_int, repD_int, modD_int, fdivD_int, ltA_int, leA_int, gtA_int, geA_int, eqD_int, neD_int, pow_10_18, pow_10_60, it, eComp, ce, er, ng, e1, e3, Option.getD_some]

/-! grown and logged undo one another: looks as polynomials in the sum -/
def mvS (A : SumT) (f : Wd → Rat) : Wd → Rat := fun u => linS (fun v => f (u ++ v)) A
def polS (A : SumT) : List Rat → (Wd → Rat) → Wd → Rat
  | [], _, _ => 0
  | c :: cs, f, u => c * f u + polS A cs (mvS A f) u
def LoF (n : Nat) (f : Wd → Rat) : Prop := ∀ w : Wd, n ≤ w.length → f w = 0
def Letr (A : SumT) : Prop := ∀ p ∈ A, p.1 ≠ []
theorem lin_zero : ∀ {A : SumT} {f : Wd → Rat}, (∀ p ∈ A, f p.1 = 0) → linS f A = 0
  | [], _, _ => rfl
  | p :: A, f, h => by
    show p.2 * f p.1 + linS f A = 0
    rw [h p (by simp), lin_zero fun q hq => h q (List.mem_cons_of_mem _ hq)]
    grind
theorem lin_scl (q : Rat) (f : Wd → Rat) : ∀ A : SumT, linS (fun v => q * f v) A = q * linS f A
  | [] => by show (0 : Rat) = q * 0; grind
  | p :: A => by
    show p.2 * (q * f p.1) + linS _ A = q * (p.2 * f p.1 + linS f A)
    rw [lin_scl q f A]; grind
theorem mv_lo {n : Nat} {A : SumT} {f : Wd → Rat} (h : LoF (n + 1) f) (hA : Letr A) : LoF n (mvS A f) := fun w hw => lin_zero fun p hp => h _ (by
  have := List.length_pos_iff.mpr (hA p hp)
  rw [List.length_append]; omega)
theorem mv_cut {n : Nat} {A : SumT} {f : Wd → Rat} (h : LoF n f) : LoF n (mvS A f) := fun w hw => lin_zero fun p hp => h _ (by rw [List.length_append]; omega)
theorem pol_cut {n : Nat} {A : SumT} : ∀ (cs : List Rat) {f : Wd → Rat}, LoF n f → LoF n (polS A cs f)
  | [], _, _ => fun _ _ => rfl
  | c :: cs, f, h => fun w hw => by
    show c * f w + polS A cs (mvS A f) w = 0
    rw [h w hw, pol_cut cs (mv_cut h) w hw]; grind
theorem pol_zero {A : SumT} : ∀ (cs : List Rat) {f : Wd → Rat}, LoF 0 f → ∀ u, polS A cs f u = 0 := fun cs _ h u => pol_cut cs h u (Nat.zero_le _)
theorem pol_take {A : SumT} (hA : Letr A) : ∀ (n : Nat) (cs : List Rat) {f : Wd → Rat}, LoF n f → ∀ u, polS A cs f u = polS A (cs.take n) f u
  | 0, cs, f, h, u => by rw [List.take_zero]; exact pol_zero cs h u
  | n + 1, [], f, h, u => rfl
  | n + 1, c :: cs, f, h, u => by
    show c * f u + polS A cs (mvS A f) u = c * f u + polS A (cs.take n) (mvS A f) u
    rw [pol_take hA n cs (mv_lo h hA) u]
/-- polynomials -/
def sclP (q : Rat) (b : List Rat) : List Rat := b.map (q * ·)
def addP : List Rat → List Rat → List Rat
  | [], b => b
  | a, [] => a
  | x :: a, y :: b => (x + y) :: addP a b
def mulP : List Rat → List Rat → List Rat
  | [], _ => []
  | x :: a, b => addP (sclP x b) (0 :: mulP a b)
def comP : List Rat → List Rat → List Rat
  | [], _ => []
  | q :: qs, b => addP [q] (mulP (comP qs b) b)
theorem pol_scl (A : SumT) (q : Rat) : ∀ (b : List Rat) (f : Wd → Rat) (u : Wd), polS A (sclP q b) f u = q * polS A b f u
  | [], f, u => by show (0 : Rat) = q * 0; grind
  | y :: b, f, u => by
    show q * y * f u + polS A (sclP q b) (mvS A f) u = q * (y * f u + polS A b (mvS A f) u)
    rw [pol_scl A q b]; grind
theorem pol_add (A : SumT) : ∀ (a b : List Rat) (f : Wd → Rat) (u : Wd), polS A (addP a b) f u = polS A a f u + polS A b f u
  | [], b, f, u => by
    have e : addP [] b = b := by cases b <;> rfl
    rw [e]
    show _ = 0 + polS A b f u
    grind
  | x :: a, [], f, u => by
    show polS A (x :: a) f u = polS A (x :: a) f u + 0
    grind
  | x :: a, y :: b, f, u => by
    show (x + y) * f u + polS A (addP a b) (mvS A f) u = x * f u + polS A a (mvS A f) u + (y * f u + polS A b (mvS A f) u)
    rw [pol_add A a b]; grind
/-- the shift of a polynomial -/
theorem pol_shift (A : SumT) (b : List Rat) (f : Wd → Rat) (u : Wd) : polS A (0 :: b) f u = polS A b (mvS A f) u := by
  show 0 * f u + polS A b (mvS A f) u = _
  grind
theorem mv_pol (A : SumT) : ∀ (b : List Rat) (f : Wd → Rat) (u : Wd), mvS A (polS A b f) u = polS A b (mvS A f) u
  | [], f, u => lin_zero fun _ _ => rfl
  | y :: b, f, u => by
    show linS (fun v => y * f (u ++ v) + polS A b (mvS A f) (u ++ v)) A = y * mvS A f u + polS A b (mvS A (mvS A f)) u
    rw [lin_plus, lin_scl, ← mv_pol A b (mvS A f) u]
    rfl
theorem pol_mul (A : SumT) : ∀ (a b : List Rat) (f : Wd → Rat) (u : Wd), polS A (mulP a b) f u = polS A a (polS A b f) u
  | [], b, f, u => rfl
  | x :: a, b, f, u => by
    show polS A (addP (sclP x b) (0 :: mulP a b)) f u = x * polS A b f u + polS A a (mvS A (polS A b f)) u
    rw [pol_add, pol_scl, pol_shift, pol_mul A a b]
    have e : mvS A (polS A b f) = polS A b (mvS A f) := funext fun v => mv_pol A b f v
    rw [e]
/-- a sum whose looks are a polynomial in another one -/
theorem pol_com {A B : SumT} {n : Nat} {b : List Rat} (h : ∀ f, LoF n f → ∀ u, mvS B f u = polS A b f u) : ∀ (qs : List Rat) {f : Wd → Rat}, LoF n f → ∀ u, polS B qs f u = polS A (comP qs b) f u
  | [], _, _, _ => rfl
  | q :: qs, f, hf, u => by
    show q * f u + polS B qs (mvS B f) u = polS A (addP [q] (mulP (comP qs b) b)) f u
    have e : mvS B f = polS A b f := funext fun v => h f hf v
    rw [e, pol_com h qs (pol_cut b hf) u, pol_add, pol_mul]
    show _ = q * f u + 0 + _
    grind
/-! powers -/
theorem lin_join5 {P A : SumT} {f : Wd → Rat} (hf : LoF 6 f) : linS f (joinM 5 P A) = linS (mvS A f) P := by
  rw [lin_joinM]
  refine lin_congr fun p _ => lin_congr fun t _ => ?_
  split
  · rfl
  · exact (hf _ (by rw [List.length_append]; omega)).symm
theorem lin_shares {A : SumT} : ∀ (qs : List Rat) (P s : SumT) {f : Wd → Rat}, Good s → LoF 6 f → linS f (shareM 5 A qs (P, s)).2 = linS f s + linS (polS A (0 :: qs) f) P
  | [], P, s, f, gs, hf => by
    have : linS (polS A [0] f) P = 0 := lin_zero fun p _ => by show 0 * f p.1 + 0 = 0; grind
    rw [this]
    show linS f s = linS f s + 0
    grind
  | q :: qs, P, s, f, gs, hf => by
    show linS f (shareM 5 A qs (toldT (joinM 5 P A), (toldT (joinM 5 P A)).foldl (timesS q) s)).2 = _
    rw [lin_shares qs _ _ (share_good _ _ gs) hf, lin_share _ _ gs, lin_told (joinM_good 5 P A), lin_told (joinM_good 5 P A), lin_join5 hf, lin_join5 (pol_cut _ hf)]
    have e1 : (mvS A (polS A (0 :: qs) f)) = fun u => polS A (0 :: qs) (mvS A f) u := funext fun u => mv_pol A (0 :: qs) f u
    have e2 : polS A (0 :: q :: qs) f = fun u => q * mvS A f u + polS A (0 :: qs) (mvS A f) u := funext fun u => by
      show 0 * f u + (q * mvS A f u + polS A qs (mvS A (mvS A f)) u) = q * mvS A f u + (0 * mvS A f u + polS A qs (mvS A (mvS A f)) u)
      grind
    rw [e1, e2, lin_plus, lin_scl]
    grind
theorem lin_powers (A : SumT) (qs : List Rat) {f : Wd → Rat} (hf : LoF 6 f) : linS f (powersM 5 A qs) = polS A (0 :: qs) f [] := by
  unfold powersM
  rw [lin_shares qs _ _ good_nil hf]
  show 0 + (1 * polS A (0 :: qs) f [] + 0) = _
  grind
theorem lin_grown (A : SumT) {f : Wd → Rat} (hf : LoF 6 f) : linS f (grownT 5 A) = polS A (1 :: gShr) f [] := by
  unfold grownT
  rw [lin_told ((powers_good 5 A gShr).add [] 1), lin_add (powers_good 5 A gShr).nd, lin_powers A gShr hf]
  show 0 * f [] + _ + 1 * f [] = 1 * f [] + _
  grind
theorem lin_logged (A : SumT) {f : Wd → Rat} (hf : LoF 6 f) : linS f (loggedT 5 A) = polS (restS A) (0 :: lShr) f [] := by
  unfold loggedT
  rw [lin_told (powers_good 5 (restS A) lShr), lin_powers (restS A) lShr hf]
/-- behind a word -/
theorem pol_at (A : SumT) (u : Wd) : ∀ (b : List Rat) (f : Wd → Rat) (w : Wd), polS A b (fun v => f (u ++ v)) w = polS A b f (u ++ w)
  | [], _, _ => rfl
  | y :: b, f, w => by
    show y * f (u ++ w) + polS A b (mvS A fun v => f (u ++ v)) w = y * f (u ++ w) + polS A b (mvS A f) (u ++ w)
    have e : (mvS A fun v => f (u ++ v)) = fun v => mvS A f (u ++ v) := funext fun v => by
      show linS (fun x => f (u ++ (v ++ x))) A = linS (fun x => f (u ++ v ++ x)) A
      refine lin_congr fun p _ => ?_
      rw [List.append_assoc]
    rw [e, pol_at A u b]
theorem lo_at {n : Nat} {f : Wd → Rat} (h : LoF n f) (u : Wd) : LoF n fun v => f (u ++ v) := fun w hw => h _ (by rw [List.length_append]; omega)
theorem mv_grown (A : SumT) {f : Wd → Rat} (hf : LoF 6 f) (u : Wd) : mvS (grownT 5 A) f u = polS A (1 :: gShr) f u := by
  show linS (fun v => f (u ++ v)) (grownT 5 A) = _
  rw [lin_grown A (lo_at hf u), pol_at, List.append_nil]
theorem mv_logged (A : SumT) {f : Wd → Rat} (hf : LoF 6 f) (u : Wd) : mvS (loggedT 5 A) f u = polS (restS A) (0 :: lShr) f u := by
  show linS (fun v => f (u ++ v)) (loggedT 5 A) = _
  rw [lin_logged A (lo_at hf u), pol_at, List.append_nil]
theorem lin_rest (f : Wd → Rat) : ∀ {A : SumT}, (A.map (·.1)).Nodup → linS f (restS A) = linS f A - coef A [] * f []
  | [], _ => by show (0 : Rat) = 0 - 0 * f []; grind
  | p :: A, h => by
    rw [List.map_cons, List.nodup_cons] at h
    have ih := lin_rest f h.2
    have ec : coef (p :: A) [] = if p.1 = [] then p.2 else coef A [] := by rw [coef_cons]
    rw [ec]
    by_cases hp : p.1 = []
    · have hn : coef A [] = 0 := coef_not (by rw [← hp]; exact h.1)
      have er : restS (p :: A) = restS A := by unfold restS; rw [List.filter_cons_of_neg (by simp [hp])]
      rw [er, ih, hn, if_pos hp]
      show _ = p.2 * f p.1 + linS f A - p.2 * f []
      rw [hp]; grind
    · have er : restS (p :: A) = p :: restS A := by unfold restS; rw [List.filter_cons_of_pos (by simp [hp])]
      rw [er, if_neg hp]
      show p.2 * f p.1 + linS f (restS A) = p.2 * f p.1 + linS f A - coef A [] * f []
      rw [ih]; grind
theorem cut5 {A : SumT} {f : Wd → Rat} (hA : ∀ p ∈ A, p.1.length ≤ 5) : linS f A = linS (fun w => if w.length ≤ 5 then f w else 0) A := lin_congr fun p hp => by rw [if_pos (hA p hp)]
theorem lo_cut (f : Wd → Rat) : LoF 6 fun w => if w.length ≤ 5 then f w else 0 := fun w hw => if_neg (by omega)
theorem ind_lo : LoF 6 (ind ([] : Wd)) := fun w hw => by
  unfold ind
  rw [if_neg]
  intro e
  rw [e] at hw
  cases hw
theorem grown_one {A : SumT} (hA : Letr A) : coef (grownT 5 A) [] = 1 := by
  have gd : Good (grownT 5 A) := ((powers_good 5 A gShr).add [] 1).told.good
  rw [← lin_ind gd.nd, lin_grown A ind_lo]
  have e : mvS A (ind ([] : Wd)) = fun _ => 0 := funext fun u => lin_zero fun p hp => by
    unfold ind
    rw [if_neg]
    intro e
    exact hA p hp (List.append_eq_nil_iff.mp e).2
  show 1 * ind ([] : Wd) [] + polS A gShr (mvS A (ind ([] : Wd))) [] = 1
  rw [e, pol_zero gShr (f := fun _ => 0) (fun _ _ => rfl)]
  have : ind ([] : Wd) [] = 1 := by unfold ind; rw [if_pos rfl]
  rw [this]; grind
theorem logged_grown {A : SumT} (sA : Sm A) (h5 : ∀ p ∈ A, p.1.length ≤ 5) (hA : Letr A) (hl : ∀ p ∈ loggedT 5 (grownT 5 A), p.1.length ≤ 5) : loggedT 5 (grownT 5 A) = A := by
  refine sm_eq (powers_good 5 _ _).told sA fun f => ?_
  rw [cut5 hl, cut5 h5]
  generalize hg : (fun w : Wd => if w.length ≤ 5 then f w else 0) = g
  have lg : LoF 6 g := by rw [← hg]; exact lo_cut f
  have gd : Good (grownT 5 A) := ((powers_good 5 A gShr).add [] 1).told.good
  have hm : ∀ f, LoF 6 f → ∀ u, mvS (restS (grownT 5 A)) f u = polS A (0 :: gShr) f u := fun f hf u => by
    show linS (fun v => f (u ++ v)) (restS (grownT 5 A)) = _
    rw [lin_rest _ gd.nd, grown_one hA]
    have := mv_grown A hf u
    have e : linS (fun v => f (u ++ v)) (grownT 5 A) = mvS (grownT 5 A) f u := rfl
    rw [e, this, List.append_nil]
    show 1 * f u + polS A gShr (mvS A f) u - 1 * f u = 0 * f u + polS A gShr (mvS A f) u
    grind
  rw [lin_logged _ lg, pol_com hm (0 :: lShr) lg, pol_take hA 6 _ lg]
  have ec : (comP (0 :: lShr) (0 :: gShr)).take 6 = [0, 1, 0, 0, 0, 0] := by decide +kernel
  rw [ec]
  show 0 * g [] + (1 * mvS A g [] + (0 * _ + (0 * _ + (0 * _ + (0 * _ + 0))))) = linS g A
  have : mvS A g [] = linS g A := rfl
  rw [this]
  grind
theorem grown_logged {A : SumT} (sA : Sm ([([], 1)] ++ A)) (h5 : ∀ p ∈ A, p.1.length ≤ 5) (hA : Letr A) (hl : ∀ p ∈ grownT 5 (loggedT 5 ([([], 1)] ++ A)), p.1.length ≤ 5) : grownT 5 (loggedT 5 ([([], 1)] ++ A)) = [([], 1)] ++ A := by
  have er : restS ([([], 1)] ++ A) = A := by
    unfold restS
    show List.filter _ (([], 1) :: A) = A
    rw [List.filter_cons_of_neg (by simp)]
    exact List.filter_eq_self.mpr fun p hp => by simpa using hA p hp
  refine sm_eq ((powers_good 5 _ _).add [] 1).told sA fun f => ?_
  have h5' : ∀ p ∈ [([], (1 : Rat))] ++ A, p.1.length ≤ 5 := fun p hp => by
    rcases List.mem_append.mp hp with hp | hp
    · rw [List.mem_singleton.mp hp]; exact Nat.zero_le _
    · exact h5 p hp
  rw [cut5 hl, cut5 h5']
  generalize hg : (fun w : Wd => if w.length ≤ 5 then f w else 0) = g
  have lg : LoF 6 g := by rw [← hg]; exact lo_cut f
  have hm : ∀ f, LoF 6 f → ∀ u, mvS (loggedT 5 ([([], 1)] ++ A)) f u = polS A (0 :: lShr) f u := fun f hf u => by
    rw [mv_logged _ hf, er]
  rw [lin_grown _ lg, pol_com hm (1 :: gShr) lg, pol_take hA 6 _ lg]
  have ec : (comP (1 :: gShr) (0 :: lShr)).take 6 = [1, 1, 0, 0, 0, 0] := by decide +kernel
  rw [ec]
  show 1 * g [] + (1 * mvS A g [] + (0 * _ + (0 * _ + (0 * _ + (0 * _ + 0))))) = 1 * g [] + linS g A
  have : mvS A g [] = linS g A := rfl
  rw [this]
  grind

/-! the law's own -/

abbrev bJLi : Rho → Out Fl := (sIf (tVal (eOp2 ltA (eOp2 addD (eArg lenA (aCons (eVar 3) aNil)) (eArg lenA (aCons (eVar 5) aNil))) (eCon (.int 6)))) (sExpr (eCallM m__law_put 0 2 (aHoleQ 2 (aCons (eOp2 addD (eVar 3) (eVar 5)) (aCons (eCall m__law_by (aCons (eVar 4) (aCons (eVar 6) aNil))) aNil))))) sSkip)
abbrev bJLo : Rho → Out Fl := (sFor (iSeqA (eVar 1)) (gTup 2 (gCons (gName 5) (gCons (gName 6) gNil))) (sIf (tVal (eOp2 ltA (eOp2 addD (eArg lenA (aCons (eVar 3) aNil)) (eArg lenA (aCons (eVar 5) aNil))) (eCon (.int 6)))) (sExpr (eCallM m__law_put 0 2 (aHoleQ 2 (aCons (eOp2 addD (eVar 3) (eVar 5)) (aCons (eCall m__law_by (aCons (eVar 4) (aCons (eVar 6) aNil))) aNil))))) sSkip))
theorem jl_in {N M a c : Nat}  {y0 y1 : Option D} {w : Wd} {q : Rat} (n0 : 0 < N) (hN : N < 2 ^ a) (hM : M < 2 ^ a) (c6 : c ≤ 6) (a6 : a ≤ 5000000)  (hw5 : w.length ≤ 5) (hw : ∀ x ∈ w, 0 ≤ x ∧ x < (c : Int)) : ∀ (B s : SumT) (k : Nat) (y6 y7 : Option D), AccL N M c 5 k s → k + B.length ≤ 1000000000 → (∀ t ∈ B, t.1.length ≤ 5 ∧ (∀ x ∈ t.1, 0 ≤ x ∧ x < (c : Int)) ∧ Bd N M (q * t.2) ∧ m__law_by [eRat.en q, eRat.en t.2] = .ok (eRat.en (q * t.2), .non)) →
    ∃ z6 z7, forL (gTup 2 (gCons (gName 5) (gCons (gName 6) gNil))) bJLi (B.map eTerm.en) [y0, y1, some (dS (s)), some (eWord.en w), some (eRat.en q), y6, y7] = .ok (.nx [y0, y1, some (dS (B.foldl (cutS 5 w q) s)), some (eWord.en w), some (eRat.en q), z6, z7])
  | [], s, k, y6, y7, h, _, _ => ⟨y6, y7, rfl⟩
  | r :: B, s, k, y6, y7, h, hk, hr => by
    obtain ⟨r1, r2, r3, r4⟩ := hr r (by simp)
    rw [List.length_cons] at hk
    have a1 := addD_w w r.1 (by omega)
    have et := term_en r
    have gt : ∀ (a b : D) (ρ : Rho), (gTup 2 (gCons (gName 5) (gCons (gName 6) gNil))) (.tup [a, b]) ρ = some ((ρ.set 5 (some a)).set 6 (some b)) := fun _ _ _ => rfl
    have l1 := len_w w
    have l2 := len_w r.1
    by_cases c : w.length + r.1.length ≤ 5
    · have c' : ((w.length : Nat) : Int) + ((r.1.length : Nat) : Int) < 6 := by omega
      have st : cutS 5 w q s r = addT s (w ++ r.1) (q * r.2) := if_pos c
      have hh : AccL N M _ 5 (k + 1) (addT s (w ++ r.1) (q * r.2)) := h.add n0 r3 (by rw [List.length_append]; omega) fun x hx => by
        rcases List.mem_append.mp hx with e | e
        · exact hw x e
        · exact r2 x e
      have p1 : m__law_put [dS s, eWord.en (w ++ r.1), eRat.en (q * r.2)] = .ok (.non, dS (addT s (w ++ r.1) (q * r.2))) := law_put_g (h.sz n0 hN hM (by omega) _) (bd_sz2 r3 n0 hN hM) (by omega) (Nat.le_trans (h.len (Nat.le_refl _) c6) (by decide))
      obtain ⟨z6, z7, e⟩ := jl_in n0 hN hM c6 a6  hw5 hw B _ (k + 1) (some (eWord.en r.1)) (some (eRat.en r.2)) hh (by omega) fun x hx => hr x (List.mem_cons_of_mem _ hx)
      refine ⟨z6, z7, ?_⟩
      rw [List.foldl_cons, st, ← e, List.map_cons]
      conv => lhs; unfold forL
      rw [et]
      generalize dS (addT s (w ++ r.1) (q * r.2)) = S2 at *
      generalize dS s = S1 at *
      generalize eWord.en (w ++ r.1) = W3 at *
      generalize eWord.en r.1 = W2 at *
      generalize eWord.en w = W1 at *
      generalize eRat.en (q * r.2) = Q3 at *
      generalize eRat.en r.2 = Q2 at *
      generalize eRat.en q = Q1 at *
      simp (disch := first | assumption | decide | omega) only [bJLi, runF, m0, sSeq, sSet, sIf, sRet, sRetN, sExpr, sSkip_ok, sSetA, sSetIx, sFor, sPar, sBind, sAug, eVar, eCon_ok, eOp2, eOp1, eCall, eCallM, eCallT, eTup, eLst, eArg, eIf, tVal, tNotF, tAndF, tOrF, eB, eAndF, eOrF, eNotF, eIxA, eIxO, eCatO, ixA_lst, ixA_tup, ixA_scr, eDNew, eDGet, eDGetO, eDPop, eSortK, eMM, aHoleQ, aHole, aNil_ok, aCons, oNone_ok, oSome, eSlice, eSliceL, iSeqA, iSeq, iRange, iArg, ePeek, tPeek, eOwnM, tYes_ok, bind_ok, bind_exc, bind_stuck, of_some, flatD, SW.gName, List.getD_cons_zero, List.getD_cons_succ, List.set_cons_zero, List.set_cons_succ, List.map_cons, List.map_nil, List.length_cons, List.length_nil, List.cons_append, List.nil_append, List.replicate, Nat.reduceAdd, Nat.reduceSub, addD_int, subD_int, negD_int, repD_int, modD_int, fdivD_int, ltA_int, leA_int, gtA_int, geA_int, eqD_int, neD_int, pow_10_18, pow_10_60, gt, a1, r4, p1, l1, l2, decide_eq_true c', if_true, Option.getD_some]
    · have c' : ¬ ((w.length : Nat) : Int) + ((r.1.length : Nat) : Int) < 6 := by omega
      have st : cutS 5 w q s r = s := if_neg c
      obtain ⟨z6, z7, e⟩ := jl_in n0 hN hM c6 a6  hw5 hw B s k (some (eWord.en r.1)) (some (eRat.en r.2)) h (by omega) fun x hx => hr x (List.mem_cons_of_mem _ hx)
      refine ⟨z6, z7, ?_⟩
      rw [List.foldl_cons, st, ← e, List.map_cons]
      conv => lhs; unfold forL
      rw [et]
      generalize dS s = S1 at *
      generalize eWord.en r.1 = W2 at *
      generalize eWord.en w = W1 at *
      generalize eRat.en r.2 = Q2 at *
      generalize eRat.en q = Q1 at *
      simp (disch := first | assumption | decide | omega) only [bJLi, runF, m0, sSeq, sSet, sIf, sRet, sRetN, sExpr, sSkip_ok, sSetA, sSetIx, sFor, sPar, sBind, sAug, eVar, eCon_ok, eOp2, eOp1, eCall, eCallM, eCallT, eTup, eLst, eArg, eIf, tVal, tNotF, tAndF, tOrF, eB, eAndF, eOrF, eNotF, eIxA, eIxO, eCatO, ixA_lst, ixA_tup, ixA_scr, eDNew, eDGet, eDGetO, eDPop, eSortK, eMM, aHoleQ, aHole, aNil_ok, aCons, oNone_ok, oSome, eSlice, eSliceL, iSeqA, iSeq, iRange, iArg, ePeek, tPeek, eOwnM, tYes_ok, bind_ok, bind_exc, bind_stuck, of_some, flatD, SW.gName, List.getD_cons_zero, List.getD_cons_succ, List.set_cons_zero, List.set_cons_succ, List.map_cons, List.map_nil, List.length_cons, List.length_nil, List.cons_append, List.nil_append, List.replicate, Nat.reduceAdd, Nat.reduceSub, addD_int, subD_int, negD_int, repD_int, modD_int, fdivD_int, ltA_int, leA_int, gtA_int, geA_int, eqD_int, neD_int, pow_10_18, pow_10_60, gt, l1, l2, decide_eq_false c', Bool.false_eq_true, if_false, Option.getD_some]

theorem jl_out {N M a c : Nat}  {A0 B : SumT} (n0 : 0 < N) (hN : N < 2 ^ a) (hM : M < 2 ^ a) (c6 : c ≤ 6) (a6 : a ≤ 5000000)  : ∀ (A s : SumT) (k : Nat) (y4 y5 y6 y7 : Option D), AccL N M c 5 k s → k + A.length * B.length ≤ 1000000000 → (∀ p ∈ A, p.1.length ≤ 5 ∧ (∀ x ∈ p.1, 0 ≤ x ∧ x < (c : Int)) ∧ ∀ t ∈ B, t.1.length ≤ 5 ∧ (∀ x ∈ t.1, 0 ≤ x ∧ x < (c : Int)) ∧ Bd N M (p.2 * t.2) ∧ m__law_by [eRat.en p.2, eRat.en t.2] = .ok (eRat.en (p.2 * t.2), .non)) →
    ∃ z4 z5 z6 z7, forL (gTup 2 (gCons (gName 3) (gCons (gName 4) gNil))) bJLo (A.map eTerm.en) [some (eSum.en A0), some (eSum.en B), some (dS (s)), y4, y5, y6, y7] = .ok (.nx [some (eSum.en A0), some (eSum.en B), some (dS (A.foldl (fun s p => B.foldl (cutS 5 p.1 p.2) s) s)), z4, z5, z6, z7])
  | [], s, k, y4, y5, y6, y7, h, _, _ => ⟨y4, y5, y6, y7, rfl⟩
  | p :: A, s, k, y4, y5, y6, y7, h, hk, hp => by
    obtain ⟨p1, p2, p3⟩ := hp p (by simp)
    rw [List.length_cons, Nat.add_mul, Nat.one_mul] at hk
    obtain ⟨x6, x7, e1⟩ := jl_in (y0 := some (eSum.en A0)) (y1 := some (eSum.en B)) (w := p.1) (q := p.2) n0 hN hM c6 a6  p1 p2 B s k y6 y7 h (by omega) p3
    have h1 := cut_acc n0 (Nat.le_refl 5) p2 B s k h fun t ht => ⟨(p3 t ht).2.1, (p3 t ht).2.2.1⟩
    obtain ⟨z4, z5, z6, z7, e⟩ := jl_out (A0 := A0) n0 hN hM c6 a6  A _ (k + B.length) (some (eWord.en p.1)) (some (eRat.en p.2)) x6 x7 h1 (by omega) fun x hx => hp x (List.mem_cons_of_mem _ hx)
    refine ⟨z4, z5, z6, z7, ?_⟩
    rw [List.foldl_cons, ← e, List.map_cons]
    conv => lhs; unfold forL
    have et := term_en p
    have gt : ∀ (a b : D) (ρ : Rho), (gTup 2 (gCons (gName 3) (gCons (gName 4) gNil))) (.tup [a, b]) ρ = some ((ρ.set 3 (some a)).set 4 (some b)) := fun _ _ _ => rfl
    have it : itemsA (eSum.en B) = some (B.map eTerm.en) := rfl
    rw [et]
    unfold bJLi at e1
    clear e h1 h
    generalize dS (B.foldl (cutS 5 p.1 p.2) s) = S2 at *
    generalize dS s = S1 at *
    generalize eWord.en p.1 = W1 at *
    generalize eRat.en p.2 = Q1 at *
    generalize eSum.en A0 = AA at *
    generalize eSum.en B = BB at *
    generalize B.map eTerm.en = BM at *
    simp (disch := first | assumption | decide | omega) only [bJLo, runF, m0, sSeq, sSet, sIf, sRet, sRetN, sExpr, sSkip_ok, sSetA, sSetIx, sFor, sPar, sBind, sAug, eVar, eCon_ok, eOp2, eOp1, eCall, eCallM, eCallT, eTup, eLst, eArg, eIf, tVal, tNotF, tAndF, tOrF, eB, eAndF, eOrF, eNotF, eIxA, eIxO, eCatO, ixA_lst, ixA_tup, ixA_scr, eDNew, eDGet, eDGetO, eDPop, eSortK, eMM, aHoleQ, aHole, aNil_ok, aCons, oNone_ok, oSome, eSlice, eSliceL, iSeqA, iSeq, iRange, iArg, ePeek, tPeek, eOwnM, tYes_ok, bind_ok, bind_exc, bind_stuck, of_some, flatD, SW.gName, List.getD_cons_zero, List.getD_cons_succ, List.set_cons_zero, List.set_cons_succ, List.map_cons, List.map_nil, List.length_cons, List.length_nil, List.cons_append, List.nil_append, List.replicate, Nat.reduceAdd, Nat.reduceSub, addD_int, subD_int, negD_int, repD_int, modD_int, fdivD_int, ltA_int, leA_int, gtA_int, geA_int, eqD_int, neD_int, pow_10_18, pow_10_60, gt, it, e1, Option.getD_some]
theorem jl_ok {e1 e2 c : Nat}  {A B : SumT} (hA : Lv e1 c A) (hB : Lv e2 c B) (c6 : c ≤ 6)  (he : e1 + e2 ≤ 2000000) : m__law_joined [eSum.en A, eSum.en B] = .ok (eSum.en (toldT (joinM 5 A B)), .non) := by
  have la := hA.len c6
  have lb := hB.len c6
  have zA := fun p hp => hA.sz (p := p) hp
  have zB := fun p hp => hB.sz (p := p) hp
  obtain ⟨N1, a1, b1, h1⟩ := hA
  obtain ⟨N2, a2, b2, h2⟩ := hB
  have n0 : 0 < N1 * N2 := Nat.mul_pos a1 a2
  have nb : N1 * N2 < 2 ^ (e1 + e2 + 1) := Nat.lt_of_lt_of_le (mul_lt2 b1 b2) (two_le (by omega))
  have mb : 2 ^ e1 * 2 ^ e2 < 2 ^ (e1 + e2 + 1) := by
    rw [← Nat.pow_add]
    exact Nat.pow_lt_pow_right (by decide) (by omega)
  obtain ⟨z4, z5, z6, z7, e⟩ := jl_out (A0 := A) (B := B)  n0 nb mb c6 (by omega)  A [] 0 none none none none (accL_nil _ _ c 5) (by have := prod_le la lb; omega) fun p hp => ⟨(h1.wd p hp).1, (h1.wd p hp).2, fun t ht => ⟨(h2.wd t ht).1, (h2.wd t ht).2, by
    have x := accL_at h1 hp
    have y := accL_at h2 ht
    rw [Nat.one_mul] at x y
    exact x.mul y, law_by_ok (zA p hp) (zB t ht) (by omega)⟩⟩
  have it : itemsA (eSum.en A) = some (A.map eTerm.en) := rfl
  have en : D.dct [] = dS [] := rfl
  have e4 := law_told_ok (joinM_good 5 A B)
  have tk := tok_sum (toldT (joinM 5 A B))
  have ej : A.foldl (fun s p => B.foldl (cutS 5 p.1 p.2) s) [] = joinM 5 A B := rfl
  rw [ej] at e
  have ed : eSum.en (toldT (joinM 5 A B)) = .lst ((toldT (joinM 5 A B)).map eTerm.en) := rfl
  rw [ed] at e4 ⊢
  clear zA zB h1 h2
  generalize (toldT (joinM 5 A B)).map eTerm.en = T at *
  generalize dS (joinM 5 A B) = DJ at *
  generalize eSum.en A = EA at *
  generalize eSum.en B = EB at *
  generalize A.map eTerm.en = AM at *
  simp (disch := first | assumption | decide | omega) only [ePeekL, tk, if_true, m__law_joined, b__law_joined, runF, m0, sSeq, sSet, sIf, sRet, sRetN, sExpr, sSkip_ok, sSetA, sSetIx, sFor, sPar, sBind, sAug, eVar, eCon_ok, eOp2, eOp1, eCall, eCallM, eCallT, eTup, eLst, eArg, eIf, tVal, tNotF, tAndF, tOrF, eB, eAndF, eOrF, eNotF, eIxA, eIxO, eCatO, ixA_lst, ixA_tup, ixA_scr, eDNew, eDGet, eDGetO, eDPop, eSortK, eMM, aHoleQ, aHole, aNil_ok, aCons, oNone_ok, oSome, eSlice, eSliceL, iSeqA, iSeq, iRange, iArg, ePeek, tPeek, eOwnM, tYes_ok, bind_ok, bind_exc, bind_stuck, of_some, flatD, SW.gName, List.getD_cons_zero, List.getD_cons_succ, List.set_cons_zero, List.set_cons_succ, List.map_cons, List.map_nil, List.length_cons, List.length_nil, List.cons_append, List.nil_append, List.replicate, Nat.reduceAdd, Nat.reduceSub, addD_int, subD_int, negD_int, repD_int, modD_int, fdivD_int, ltA_int, leA_int, gtA_int, geA_int, eqD_int, neD_int, pow_10_18, pow_10_60, en, it, e, e4]

abbrev bJLp : Rho → Out Fl := (sSeq (sSet 3 (eCall m__law_joined (aCons (eVar 3) (aCons (eVar 0) aNil)))) (sFor (iSeqA (eVar 3)) (gTup 2 (gCons (gName 5) (gCons (gName 6) gNil))) (sExpr (eCallM m__law_put 0 2 (aHoleQ 2 (aCons (eVar 5) (aCons (eCall m__law_by (aCons (eVar 6) (aCons (eVar 4) aNil))) aNil)))))))
abbrev bJLq : Rho → Out Fl := (sExpr (eCallM m__law_put 0 2 (aHoleQ 2 (aCons (eVar 5) (aCons (eCall m__law_by (aCons (eVar 6) (aCons (eVar 4) aNil))) aNil)))))
theorem jl_share {N M a c : Nat} {y0 y1 y4 : Option D} {q : Rat} (n0 : 0 < N) (hN : N < 2 ^ a) (hM : M < 2 ^ a) (c6 : c ≤ 6) (a6 : a ≤ 5000000) : ∀ (B s : SumT) (k : Nat) (y6 y7 : Option D), AccL N M c 5 k s → k + B.length ≤ 1000000000 → (∀ t ∈ B, t.1.length ≤ 5 ∧ (∀ x ∈ t.1, 0 ≤ x ∧ x < (c : Int)) ∧ Bd N M (t.2 * q) ∧ m__law_by [eRat.en t.2, eRat.en q] = .ok (eRat.en (t.2 * q), .non)) →
    ∃ z6 z7, forL (gTup 2 (gCons (gName 5) (gCons (gName 6) gNil))) bJLq (B.map eTerm.en) [y0, y1, some (dS (s)), y4, some (eRat.en q), y6, y7] = .ok (.nx [y0, y1, some (dS (B.foldl (timesS q) s)), y4, some (eRat.en q), z6, z7])
  | [], s, k, y6, y7, h, _, _ => ⟨y6, y7, rfl⟩
  | r :: B, s, k, y6, y7, h, hk, hr => by
    obtain ⟨r1, r2, r3, r4⟩ := hr r (by simp)
    rw [List.length_cons] at hk
    have et := term_en r
    have gt : ∀ (a b : D) (ρ : Rho), (gTup 2 (gCons (gName 5) (gCons (gName 6) gNil))) (.tup [a, b]) ρ = some ((ρ.set 5 (some a)).set 6 (some b)) := fun _ _ _ => rfl
    have st : timesS q s r = addT s r.1 (r.2 * q) := rfl
    have hh : AccL N M _ 5 (k + 1) (addT s r.1 (r.2 * q)) := h.add n0 r3 r1 r2
    have p1 : m__law_put [dS s, eWord.en r.1, eRat.en (r.2 * q)] = .ok (.non, dS (addT s r.1 (r.2 * q))) := law_put_g (h.sz n0 hN hM (by omega) _) (bd_sz2 r3 n0 hN hM) (by omega) (Nat.le_trans (h.len (Nat.le_refl _) c6) (by decide))
    obtain ⟨z6, z7, e⟩ := jl_share n0 hN hM c6 a6 B _ (k + 1) (some (eWord.en r.1)) (some (eRat.en r.2)) hh (by omega) fun x hx => hr x (List.mem_cons_of_mem _ hx)
    refine ⟨z6, z7, ?_⟩
    rw [List.foldl_cons, st, ← e, List.map_cons]
    conv => lhs; unfold forL
    rw [et]
    generalize dS (addT s r.1 (r.2 * q)) = S2 at *
    generalize dS s = S1 at *
    generalize eWord.en r.1 = W2 at *
    generalize eRat.en (r.2 * q) = Q3 at *
    generalize eRat.en r.2 = Q2 at *
    generalize eRat.en q = Q1 at *
    simp (disch := first | assumption | decide | omega) only [bJLq, runF, m0, sSeq, sSet, sIf, sRet, sRetN, sExpr, sSkip_ok, sSetA, sSetIx, sFor, sPar, sBind, sAug, eVar, eCon_ok, eOp2, eOp1, eCall, eCallM, eCallT, eTup, eLst, eArg, eIf, tVal, tNotF, tAndF, tOrF, eB, eAndF, eOrF, eNotF, eIxA, eIxO, eCatO, ixA_lst, ixA_tup, ixA_scr, eDNew, eDGet, eDGetO, eDPop, eSortK, eMM, aHoleQ, aHole, aNil_ok, aCons, oNone_ok, oSome, eSlice, eSliceL, iSeqA, iSeq, iRange, iArg, ePeek, tPeek, eOwnM, tYes_ok, bind_ok, bind_exc, bind_stuck, of_some, flatD, SW.gName, List.getD_cons_zero, List.getD_cons_succ, List.set_cons_zero, List.set_cons_succ, List.map_cons, List.map_nil, List.length_cons, List.length_nil, List.cons_append, List.nil_append, List.replicate, Nat.reduceAdd, Nat.reduceSub, addD_int, subD_int, negD_int, repD_int, modD_int, fdivD_int, ltA_int, leA_int, gtA_int, geA_int, eqD_int, neD_int, pow_10_18, pow_10_60, gt, r4, p1, Option.getD_some]
theorem jl_pows {e c : Nat}  {A : SumT} {y1 : Option D} (hA : Lv e c A) (c6 : c ≤ 6)  : ∀ (qs : List Rat) (a b : Nat) (P s : SumT) (y5 y6 y7 : Option D), Lv a c P → Lv b c s → (∀ q ∈ qs, Shr q) → b + (a + (e + 29) * qs.length + 15) * qs.length + a + (e + 29) * qs.length ≤ 1000000 →
    ∃ z5 z6 z7, forL (SW.gName 4) bJLp (qs.map eRat.en) [some (eSum.en A), y1, some (dS (s)), some (eSum.en (P)), y5, y6, y7] = .ok (.nx [some (eSum.en A), y1, some (dS ((shareM 5 A qs (P, s)).2)), some (eSum.en ((shareM 5 A qs (P, s)).1)), z5, z6, z7])
  | [], a, b, P, s, y5, y6, y7, _, _, _, _ => ⟨y5, y6, y7, rfl⟩
  | q :: qs, a, b, P, s, y5, y6, y7, hP, hs, hq, hb => by
    have q0 := hq q (by simp)
    rw [List.length_cons, Nat.mul_succ, Nat.mul_succ] at hb
    have e1 := jl_ok (A := P) (B := A) hP hA c6  (by omega)
    have h1 := (hP.join hA c6 (Nat.le_refl 5)).told
    have h2 := h1.share hs c6 q0
    have l1 := h1.len c6
    have w1 := h1.wd
    have z1 := fun p hp => h1.sz (p := p) hp
    obtain ⟨N, n0, nb, r1, r2⟩ := share_ready h1 hs q0
    obtain ⟨x6, x7, e2⟩ := jl_share (y0 := some (eSum.en A)) (y1 := y1) (y4 := some (eSum.en (toldT (joinM 5 P A)))) (q := q) n0 nb (Nat.pow_lt_pow_right (by decide) (by omega) : 2 ^ (a + e + 29 + b) < 2 ^ (a + e + 29 + b + 7)) c6 (by omega) (toldT (joinM 5 P A)) s 1 y6 y7 r1 (by omega) fun t ht => ⟨(w1 t ht).1, (w1 t ht).2, r2 t ht, law_by_ok (z1 t ht) (shr_sz q0) (by omega)⟩
    have hb2 : b + (a + e + 29) + 15 ≤ 2000000 := by omega
    obtain ⟨z5, z6, z7, e3⟩ := jl_pows (y1 := y1) hA c6  qs _ _ _ _ (some (eRat.en q)) x6 x7 h1 h2 (fun x hx => hq x (List.mem_cons_of_mem _ hx)) (by
      have : a + e + 29 + (e + 29) * qs.length = a + ((e + 29) * qs.length + (e + 29)) := by omega
      rw [this]
      omega)
    refine ⟨z5, z6, z7, ?_⟩
    have es : shareM 5 A (q :: qs) (P, s) = shareM 5 A qs (toldT (joinM 5 P A), (toldT (joinM 5 P A)).foldl (timesS q) s) := rfl
    rw [es, ← e3, List.map_cons]
    conv => lhs; unfold forL
    have it : itemsA (eSum.en (toldT (joinM 5 P A))) = some ((toldT (joinM 5 P A)).map eTerm.en) := rfl
    have gt : ∀ (d : D) (ρ : Rho), (SW.gName 4) d ρ = some (ρ.set 4 (some d)) := fun _ _ => rfl
    unfold bJLq at e2
    clear e3 es r1 r2 h1 h2 z1 w1
    generalize dS ((toldT (joinM 5 P A)).foldl (timesS q) s) = S2 at *
    generalize dS s = S1 at *
    generalize (toldT (joinM 5 P A)).map eTerm.en = TM at *
    generalize eSum.en (toldT (joinM 5 P A)) = T at *
    generalize eSum.en P = PP at *
    generalize eSum.en A = AA at *
    generalize eRat.en q = Q1 at *
    simp (disch := first | assumption | decide | omega) only [bJLp, runF, m0, sSeq, sSet, sIf, sRet, sRetN, sExpr, sSkip_ok, sSetA, sSetIx, sFor, sPar, sBind, sAug, eVar, eCon_ok, eOp2, eOp1, eCall, eCallM, eCallT, eTup, eLst, eArg, eIf, tVal, tNotF, tAndF, tOrF, eB, eAndF, eOrF, eNotF, eIxA, eIxO, eCatO, ixA_lst, ixA_tup, ixA_scr, eDNew, eDGet, eDGetO, eDPop, eSortK, eMM, aHoleQ, aHole, aNil_ok, aCons, oNone_ok, oSome, eSlice, eSliceL, iSeqA, iSeq, iRange, iArg, ePeek, tPeek, eOwnM, tYes_ok, bind_ok, bind_exc, bind_stuck, of_some, flatD, SW.gName, List.getD_cons_zero, List.getD_cons_succ, List.set_cons_zero, List.set_cons_succ, List.map_cons, List.map_nil, List.length_cons, List.length_nil, List.cons_append, List.nil_append, List.replicate, Nat.reduceAdd, Nat.reduceSub, addD_int, subD_int, negD_int, repD_int, modD_int, fdivD_int, ltA_int, leA_int, gtA_int, geA_int, eqD_int, neD_int, pow_10_18, pow_10_60, gt, e1, it, e2, Option.getD_some]
theorem jl_powers {e c : Nat}  {A : SumT} (hA : Lv e c A) (c6 : c ≤ 6)  (he : e ≤ 20000) {qs : List Rat} (h5 : qs.length = 5) (hq : ∀ q ∈ qs, Shr q) : m__law_powers [eSum.en A, .lst (qs.map eRat.en)] = .ok (dS (powersM 5 A qs), .non) := by
  obtain ⟨z5, z6, z7, e⟩ := jl_pows (y1 := some (.lst (qs.map eRat.en))) hA c6  qs 1 1 [([], 1)] [] none none none (lv_one c) (lv_nil c) hq (by rw [h5]; omega)
  have it : itemsA (.lst (qs.map eRat.en)) = some (qs.map eRat.en) := rfl
  have en : D.dct [] = dS [] := rfl
  have p0 : eSum.en [([], 1)] = .lst [.tup [.tup [], .tup [.int 1, .int 1]]] := rfl
  have ko : (0 : Nat) = 0 := rfl
  rw [p0] at e
  have ej : (shareM 5 A qs ([([], 1)], [])).2 = powersM 5 A qs := rfl
  rw [ej] at e
  unfold bJLp at e
  generalize dS (powersM 5 A qs) = DP at *
  generalize eSum.en (shareM 5 A qs ([([], 1)], [])).1 = PP at *
  generalize eSum.en A = AA at *
  generalize qs.map eRat.en = QM at *
  simp (disch := first | assumption | decide | omega) only [m__law_powers, b__law_powers, runF, m0, sSeq, sSet, sIf, sRet, sRetN, sExpr, sSkip_ok, sSetA, sSetIx, sFor, sPar, sBind, sAug, eVar, eCon_ok, eOp2, eOp1, eCall, eCallM, eCallT, eTup, eLst, eArg, eIf, tVal, tNotF, tAndF, tOrF, eB, eAndF, eOrF, eNotF, eIxA, eIxO, eCatO, ixA_lst, ixA_tup, ixA_scr, eDNew, eDGet, eDGetO, eDPop, eSortK, eMM, aHoleQ, aHole, aNil_ok, aCons, oNone_ok, oSome, eSlice, eSliceL, iSeqA, iSeq, iRange, iArg, ePeek, tPeek, eOwnM, tYes_ok, bind_ok, bind_exc, bind_stuck, of_some, flatD, SW.gName, List.getD_cons_zero, List.getD_cons_succ, List.set_cons_zero, List.set_cons_succ, List.map_cons, List.map_nil, List.length_cons, List.length_nil, List.cons_append, List.nil_append, List.replicate, Nat.reduceAdd, Nat.reduceSub, addD_int, subD_int, negD_int, repD_int, modD_int, fdivD_int, ltA_int, leA_int, gtA_int, geA_int, eqD_int, neD_int, pow_10_18, pow_10_60, en, it, ko, e, Option.getD_some]

theorem self_cmp {d : D} {p : PyData} (h : d.py = some p) (hl : p.canLay0 = true) (hd : p.depth ≤ 64) : eqD d d = some (.bl true) ∧ neD d d = some (.bl false) := by
  have hs : shOk p p = true := by
    unfold shOk SeqAt.shaped
    rw [hl, decide_eq_true hd]; rfl
  have hq : PyData.eqv p p = true := PySem.SeqAt.eqv_refl p hl
  refine ⟨?_, ?_⟩
  · unfold eqD cmpP
    rw [h]
    dsimp only
    rw [hs, if_pos rfl, hq]
  · unfold neD cmpP
    rw [h]
    dsimp only
    rw [hs, if_pos rfl, hq]
    rfl
/-- data that can be compared -/
def CmpN (n : Nat) (d : D) : Prop := ∃ p, d.py = some p ∧ p.canLay0 = true ∧ p.depth ≤ n
theorem CmpN.up {n m : Nat} {d : D} (h : CmpN n d) (hm : n ≤ m) : CmpN m d := by
  obtain ⟨p, h1, h2, h3⟩ := h
  exact ⟨p, h1, h2, Nat.le_trans h3 hm⟩
theorem cmp_enc {α : Type} [DecidableEq α] (e : Enc α) (a : α) : CmpN e.dp (e.en a) := ⟨e.py a, e.hpy a, e.lay a, e.hdp a⟩
theorem cmp_all {n : Nat} : ∀ {L : List D}, (∀ d ∈ L, CmpN n d) → ∃ ps, D.pyL L = some ps ∧ PyData.canLayAll0 ps = true ∧ PyData.depthAll ps ≤ n
  | [], _ => ⟨[], rfl, by simp [PyData.canLayAll0], by simp [PyData.depthAll]⟩
  | d :: L, h => by
    obtain ⟨p, h1, h2, h3⟩ := h d (by simp)
    obtain ⟨ps, g1, g2, g3⟩ := cmp_all fun x hx => h x (List.mem_cons_of_mem _ hx)
    refine ⟨p :: ps, ?_, by simp [PyData.canLayAll0, h2, g2], ?_⟩
    · show (match d.py, D.pyL L with
        | some p, some ps => some (p :: ps)
        | _, _ => none) = _
      rw [h1, g1]
    · simp only [PyData.depthAll]
      omega
theorem cmp_lst {n : Nat} {L : List D} (h : ∀ d ∈ L, CmpN n d) : CmpN (n + 1) (.lst L) := by
  obtain ⟨ps, g1, g2, g3⟩ := cmp_all h
  refine ⟨.list ps, ?_, by simpa [PyData.canLay0] using g2, ?_⟩
  · show (D.pyL L).map PyData.list = _
    rw [g1]
    rfl
  · simp only [PyData.depth]
    omega
theorem ne_self {n : Nat} {d : D} (h : CmpN n d) (hn : n ≤ 64) : neD d d = some (.bl false) := by
  obtain ⟨p, h1, h2, h3⟩ := h
  exact (self_cmp h1 h2 (Nat.le_trans h3 hn)).2

/-! dict(list of terms) -/
theorem pairs_E : ∀ B : SumT, pairsD (B.map eTerm.en) = some (dE eRat.en B)
  | [] => rfl
  | p :: B => by
    rw [List.map_cons]
    unfold pairsD
    have e : pairD (eTerm.en p) = some (wk p.1, eRat.en p.2) := by
      show (keyT (eWord.en p.1)).map (fun k => (k, eRat.en p.2)) = _
      rw [keyT_word]
      rfl
    rw [e, pairs_E B]
    rfl
theorem putAll_E : ∀ B acc : SumT, putAll (dE eRat.en B) (dE eRat.en acc) = dE eRat.en (B.foldl (fun a p => setT a p.1 p.2) acc)
  | [], _ => rfl
  | p :: B, acc => by
    show putAll (dE eRat.en B) (putD (dE eRat.en acc) (wk p.1) (eRat.en p.2)) = _
    rw [putD_E, putAll_E B]
    rfl
theorem set_fresh : ∀ B acc : SumT, ((acc ++ B).map (·.1)).Nodup → B.foldl (fun a p => setT a p.1 p.2) acc = acc ++ B
  | [], acc, _ => by rw [List.append_nil]; rfl
  | p :: B, acc, h => by
    rw [List.foldl_cons]
    have hn : getT acc p.1 = none := getT_none.mpr fun hm => by
      rw [List.map_append, List.map_cons, List.nodup_append] at h
      exact h.2.2 p.1 hm p.1 List.mem_cons_self rfl
    have e : setT acc p.1 p.2 = acc ++ [p] := by unfold setT; rw [hn]; rfl
    rw [e, set_fresh B (acc ++ [p]) (by rw [List.append_assoc]; exact h), List.append_assoc]
    rfl
theorem dict_sum {B : SumT} (h : (B.map (·.1)).Nodup) : dictD (eSum.en B) = some (dS B) := by
  show (pairsD (B.map eTerm.en)).map _ = _
  rw [pairs_E]
  show some (D.dct (putAll (dE eRat.en B) (dE eRat.en []))) = _
  rw [putAll_E, set_fresh B [] h, List.nil_append]
/-! meetings -/

/-! the text of a told sum -/
theorem piledU {m : Nat} : ∀ {ts : List Str}, (∀ t ∈ ts, t.length ≤ m) → piled ts ≤ ts.length * (m + 2)
  | [], _ => by rw [piled_nil]; omega
  | t :: ts, h => by
    have h1 := h t List.mem_cons_self
    have h2 := piledU (ts := ts) fun x hx => h x (List.mem_cons_of_mem _ hx)
    rw [piled_cons, List.length_cons, Nat.add_mul]
    omega
theorem listTextU (ts : List Str) : (listText ts).length ≤ 2 + piled ts := by
  cases ts with
  | nil => rw [PySem.listText_nil]; decide
  | cons t r =>
    have h := textFrom_length_pos r 1 (("[" : Str) ++ (if (0 : Nat) > 0 then ", " else "" : String) ++ t) (Nat.succ_pos 0)
    have e : ((("[" : Str) ++ (if (0 : Nat) > 0 then ", " else "" : String) ++ t)).length = 1 + t.length := by
      rw [strLen_append, strLen_append]; rfl
    have e2 : (listText (t :: r)).length = (textFrom 1 (("[" : Str) ++ (if (0 : Nat) > 0 then ", " else "" : String) ++ t) r).length + 1 := by
      show (textFrom 1 _ r ++ "]").length = _
      rw [strLen_append]; rfl
    rw [e2, h, e, piled_cons]
    omega
theorem tupleTextU (ts : List Str) : (tupleText ts).length ≤ 3 + piled ts := by
  unfold tupleText
  rw [strLen_append, strLen_append]
  have e1 : ((("(" : String) : Str)).length = 1 := rfl
  have e3 : (((if ts.length == 1 then ",)" else ")" : String) : Str)).length ≤ 2 := by split <;> decide
  have e2 : (Str.join ", " ts).length ≤ piled ts := by
    cases ts with
    | nil => exact Nat.le_of_eq rfl
    | cons t r => have := join_length_add (t :: r) (by simp); omega
  omega
theorem intTextU {i : Int} {k : Nat} (hk : 0 < k) (h : i.natAbs < 10 ^ k) : (PyData.shown (.int i)).length ≤ k + 1 := by
  show (Str.ofString (toString i)).length ≤ _
  rw [PySem.ofString_length]
  exact int_text_length_le10 hk h
theorem shownL (ps : List PyData) : PyData.shownAll ps = ps.map PyData.shown := by
  induction ps with
  | nil => rfl
  | cons p ps ih => show p.shown :: PyData.shownAll ps = _; rw [ih]; rfl
theorem showL {ps : List PyData} (h : ∀ p ∈ ps, p.showable = true) : PyData.showableAll ps = true := by
  induction ps with
  | nil => rfl
  | cons p ps ih =>
    show (p.showable && PyData.showableAll ps) = true
    rw [h p List.mem_cons_self, ih fun x hx => h x (List.mem_cons_of_mem _ hx)]
    rfl
theorem int_show {i : Int} {k : Nat} (hk : k ≤ 570) (h : i.natAbs < 10 ^ k) : (PyData.int i).showable = true := by
  show decide (i.natAbs.log2 < 1920) = true
  refine decide_eq_true ?_
  by_cases h0 : i.natAbs = 0
  · rw [h0]; decide
  · refine (Nat.log2_lt h0).mpr (Nat.lt_of_lt_of_le h ?_)
    refine Nat.le_trans (Nat.pow_le_pow_right (by decide) hk) ?_
    decide +kernel
structure ShT (a b : Nat) (p : Wd × Rat) : Prop where
  ln : p.1.length ≤ 5
  lt : ∀ x ∈ p.1, 0 ≤ x ∧ x < 10
  n : p.2.num.natAbs < 10 ^ a
  d : p.2.den < 10 ^ b
theorem wd_text {w : Wd} (h : w.length ≤ 5) (l : ∀ x ∈ w, 0 ≤ x ∧ x < 10) : (eWord.py w).shown.length ≤ 23 ∧ (eWord.py w).showable = true := by
  have e : eWord.py w = .tuple (w.map PyData.int) := rfl
  rw [e]
  refine ⟨?_, showL ?_⟩
  · show (tupleText (PyData.shownAll (w.map PyData.int))).length ≤ 23
    rw [shownL]
    have h1 := tupleTextU ((w.map PyData.int).map PyData.shown)
    have h2 : piled ((w.map PyData.int).map PyData.shown) ≤ ((w.map PyData.int).map PyData.shown).length * (2 + 2) := piledU (m := 2) (by
      intro t ht
      obtain ⟨p, hp, rfl⟩ := List.mem_map.mp ht
      obtain ⟨x, hx, rfl⟩ := List.mem_map.mp hp
      exact intTextU (k := 1) (by decide) (by have := l x hx; omega))
    rw [List.length_map, List.length_map] at h2
    omega
  · intro p hp
    obtain ⟨x, hx, rfl⟩ := List.mem_map.mp hp
    exact int_show (k := 1) (by decide) (by have := l x hx; omega)
theorem term_text {a b : Nat} (a0 : 0 < a) (b0 : 0 < b) (ha : a ≤ 570) (hb : b ≤ 570) {p : Wd × Rat} (h : ShT a b p) : (eTerm.py p).shown.length ≤ a + b + 39 ∧ (eTerm.py p).showable = true := by
  obtain ⟨w1, w2⟩ := wd_text h.ln h.lt
  have e : eTerm.py p = .tuple [eWord.py p.1, .tuple [.int p.2.num, .int (p.2.den : Nat)]] := rfl
  have n1 := intTextU a0 h.n
  have d1 := intTextU (i := ((p.2.den : Nat) : Int)) b0 (by rw [Int.natAbs_natCast]; exact h.d)
  rw [e]
  refine ⟨?_, showL ?_⟩
  · show (tupleText [(eWord.py p.1).shown, tupleText [PyData.shown (.int p.2.num), PyData.shown (.int (p.2.den : Nat))]]).length ≤ _
    have h1 := tupleTextU [(eWord.py p.1).shown, tupleText [PyData.shown (.int p.2.num), PyData.shown (.int (p.2.den : Nat))]]
    have h2 := tupleTextU [PyData.shown (.int p.2.num), PyData.shown (.int (p.2.den : Nat))]
    rw [piled_cons, piled_cons, piled_nil] at h1 h2
    omega
  · intro q hq
    rcases List.mem_cons.mp hq with rfl | hq
    · exact w2
    · rcases List.mem_cons.mp hq with rfl | hq
      · refine showL fun q hq => ?_
        rcases List.mem_cons.mp hq with rfl | hq
        · exact int_show ha h.n
        · rcases List.mem_cons.mp hq with rfl | hq
          · exact int_show hb (by rw [Int.natAbs_natCast]; exact h.d)
          · cases hq
      · cases hq
theorem neS_str (x : Str) : neS (.str x) (.str x) = some (.bl false) := by
  show some (D.bl (!decide (x = x))) = _
  rw [decide_eq_true rfl]
  rfl

/-- data that can be shown -/
def Shw (n k : Nat) (d : D) : Prop := ∃ p, d.py = some p ∧ p.showable = true ∧ p.depth ≤ n ∧ p.shown.length ≤ k
theorem Shw.up {n k n' k' : Nat} {d : D} (h : Shw n k d) (hn : n ≤ n') (hk : k ≤ k') : Shw n' k' d := by
  obtain ⟨p, h1, h2, h3, h4⟩ := h
  exact ⟨p, h1, h2, Nat.le_trans h3 hn, Nat.le_trans h4 hk⟩
theorem shw_all {n k : Nat} : ∀ {L : List D}, (∀ d ∈ L, Shw n k d) → ∃ ps, D.pyL L = some ps ∧ (∀ p ∈ ps, p.showable = true) ∧ PyData.depthAll ps ≤ n ∧ (∀ p ∈ ps, p.shown.length ≤ k) ∧ ps.length = L.length
  | [], _ => ⟨[], rfl, by simp, by simp [PyData.depthAll], by simp, rfl⟩
  | d :: L, h => by
    obtain ⟨p, h1, h2, h3, h4⟩ := h d (by simp)
    obtain ⟨ps, g1, g2, g3, g4, g5⟩ := shw_all fun x hx => h x (List.mem_cons_of_mem _ hx)
    refine ⟨p :: ps, ?_, ?_, ?_, ?_, by rw [List.length_cons, List.length_cons, g5]⟩
    · show (match d.py, D.pyL L with
        | some p, some ps => some (p :: ps)
        | _, _ => none) = _
      rw [h1, g1]
    · intro q hq
      rcases List.mem_cons.mp hq with rfl | hq
      · exact h2
      · exact g2 q hq
    · simp only [PyData.depthAll]
      omega
    · intro q hq
      rcases List.mem_cons.mp hq with rfl | hq
      · exact h4
      · exact g4 q hq
theorem shw_lst {n k : Nat} {L : List D} (h : ∀ d ∈ L, Shw n k d) : Shw (n + 1) (2 + L.length * (k + 2)) (.lst L) := by
  obtain ⟨ps, g1, g2, g3, g4, g5⟩ := shw_all h
  refine ⟨.list ps, ?_, showL g2, ?_, ?_⟩
  · show (D.pyL L).map PyData.list = _
    rw [g1]; rfl
  · simp only [PyData.depth]
    omega
  · show (listText (PyData.shownAll ps)).length ≤ _
    rw [shownL]
    have h1 := listTextU (ps.map PyData.shown)
    have h2 : piled (ps.map PyData.shown) ≤ (ps.map PyData.shown).length * (k + 2) := piledU (by
      intro t ht
      obtain ⟨q, hq, rfl⟩ := List.mem_map.mp ht
      exact g4 q hq)
    rw [List.length_map, g5] at h2
    omega
theorem shw_str {n : Nat} {d : D} (h : Shw n 8000000 d) (hn : n ≤ 40) (hl : ∃ l, d = .lst l ∨ d = .tup l) : ∃ t, strD [d] = some (.str t) := by
  obtain ⟨p, h1, h2, h3, h4⟩ := h
  have h5 : sizeLine = 16777216 := by decide
  have hf : fitsP p = true := by
    unfold fitsP
    rw [h2, decide_eq_true (Nat.le_trans h3 hn), decide_eq_true (by omega)]
    rfl
  obtain ⟨l, rfl | rfl⟩ := hl
  · refine ⟨p.shown, ?_⟩
    show (match D.py (.lst l) with
      | some p => if fitsP p = true then some (D.str p.shown) else none
      | none => none) = _
    rw [h1]
    show (if fitsP p = true then some (D.str p.shown) else none) = _
    rw [if_pos hf]
  · refine ⟨p.shown, ?_⟩
    show (match D.py (.tup l) with
      | some p => if fitsP p = true then some (D.str p.shown) else none
      | none => none) = _
    rw [h1]
    show (if fitsP p = true then some (D.str p.shown) else none) = _
    rw [if_pos hf]

theorem shw_term {a b : Nat} (a0 : 0 < a) (b0 : 0 < b) (ha : a ≤ 570) (hb : b ≤ 570) {p : Wd × Rat} (h : ShT a b p) : Shw 3 (a + b + 39) (eTerm.en p) := by
  obtain ⟨h1, h2⟩ := term_text a0 b0 ha hb h
  exact ⟨eTerm.py p, eTerm.hpy p, h2, Nat.le_trans (eTerm.hdp p) (by decide), h1⟩
/-! k58: what is drawn -/
abbrev bTm : Rho → Out Fl := (sSeq (sSet 5 (eArg tupleD (aCons (eComp [7] (iRange (aCons (eOp2 addD (eCon (.int 1)) (eCallM m__law_take 0 0 (aHoleQ 0 (aCons (eVar 3) aNil)))) aNil)) (gName 7) tYesF (eCallM m__law_take 0 0 (aHoleQ 0 (aCons (eVar 1) aNil)))) aNil))) (sSeq (sSet 6 (eCallM m__law_number 0 0 (aHoleQ 0 aNil))) (sIf (tVal (eOp2 neD (eOp2 ixA (eVar 6) (eCon (.int 0))) (eCon (.int 0)))) (sSetA 2 (eVar 6) (eVar 5)) sSkip)))
theorem drawn_loop {c m : Nat} (c1 : 1 ≤ c) (c4 : c ≤ 4) (m1 : 1 ≤ m) (m3 : m ≤ 3) : ∀ (r : List Nat) (n k : Nat) (p : D) (l : SumT) (y4 y5 y6 : Option D), DicB c 3 k 2520 1000 l → Letr l → k + r.length ≤ 10 → Ps (n + r.length * 10) p →
    ∃ (l' : SumT) (p' : D) (z4 z5 z6 : Option D), forL (SW.gName 4) bTm (r.map fun i : Nat => D.int ((i : Nat) : Int)) [some p, some (.int ((c : Nat) : Int)), some (dS l), some (.int ((m : Nat) : Int)), y4, y5, y6, none] = .ok (.nx [some p', some (.int ((c : Nat) : Int)), some (dS l'), some (.int ((m : Nat) : Int)), z4, z5, z6, none]) ∧ DicB c 3 (k + r.length) 2520 1000 l' ∧ Letr l' ∧ Ps n p'
  | [], n, k, p, l, y4, y5, y6, h, hl, _, hp => ⟨l, p, y4, y5, y6, rfl, h, hl, by simpa using hp⟩
  | i :: r, n, k, p, l, y4, y5, y6, h, hl, hk, hp => by
    rw [List.length_cons] at hp hk
    have h200 : (2 : Int) ^ 200 = 1606938044258990275541962092341162602522202993782792835301376 := by decide
    obtain ⟨g, p1, e1, g0, g1, hp1⟩ := take_ok (n := n + r.length * 10 + 9) (many := ((m : Nat) : Int)) (hp.mono (by omega)) (by omega) (by omega)
    have hrg := rangeD1 (j := 1 + g) (by omega) (by omega)
    obtain ⟨w, p2, e2, wl, wg, hp2⟩ := compL_turn (vs := [7]) (b := SW.gName 7) (fe := eCallM m__law_take 0 0 (aHoleQ 0 (aCons (eVar 1) aNil))) (en := D.int) (f := fun i : Nat => D.int ((i : Nat) : Int)) (ρf := fun p => [some p, some (.int ((c : Nat) : Int)), some (dS l), some (.int ((m : Nat) : Int)), some (.int ((i : Nat) : Int)), y5, y6, none]) (Good := fun x => 0 ≤ x ∧ x < (c : Int)) (c := 1) (by
      intro j n p hp
      obtain ⟨g, p1, e, g0, g1, hp1⟩ := take_ok (n := n) (p := p) (many := c) hp (by omega) (by omega)
      refine ⟨[some p, some (.int ((c : Nat) : Int)), some (dS l), some (.int ((m : Nat) : Int)), some (.int ((i : Nat) : Int)), y5, y6, some (.int ((j : Nat) : Int))], rfl, g, p1, [some p1, some (.int ((c : Nat) : Int)), some (dS l), some (.int ((m : Nat) : Int)), some (.int ((i : Nat) : Int)), y5, y6, some (.int ((j : Nat) : Int))], ?_, rfl, ⟨g0, g1⟩, hp1⟩
      simp (disch := first | assumption | decide | omega) only [runF, m0, sSeq, sSet, sIf, sRet, sRetN, sExpr, sSkip_ok, sSetA, sSetIx, sFor, sPar, sBind, sAug, eVar, eCon_ok, eOp2, eOp1, eCall, eCallM, eCallT, eTup, eLst, eArg, eIf, tVal, tNotF, tAndF, tOrF, eB, eAndF, eOrF, eNotF, eIxA, eIxO, eCatO, ixA_lst, ixA_tup, ixA_scr, eDNew, eDGet, eDGetO, eDPop, eSortK, eMM, aHoleQ, aHole, aNil_ok, aCons, oNone_ok, oSome, eSlice, eSliceL, iSeqA, iSeq, iRange, iArg, ePeek, tPeek, eOwnM, tYes_ok, bind_ok, bind_exc, bind_stuck, of_some, flatD, SW.gName, List.getD_cons_zero, List.getD_cons_succ, List.set_cons_zero, List.set_cons_succ, List.map_cons, List.map_nil, List.length_cons, List.length_nil, List.cons_append, List.nil_append, List.replicate, Nat.reduceAdd, Nat.reduceSub, addD_int, subD_int, negD_int, repD_int, modD_int, fdivD_int, ltA_int, leA_int, gtA_int, geA_int, eqD_int, neD_int, pow_10_18, pow_10_60, e, Option.getD_some]) (List.range (1 + g).toNat) (n + r.length * 10 + 5) p1 (Ps.mono (by rw [List.length_range]; omega) hp1)
    rw [List.length_range] at wl
    obtain ⟨q, p3, e3, q1, hp3⟩ := law_number_ok (n := n + r.length * 10) (hp2.mono (by omega))
    have ti := tuple_i w
    have x0 := r0 q
    by_cases hq : q = 0
    · have d0 : q.num = 0 := by rw [hq]; rfl
      obtain ⟨l', p', z4, z5, z6, e, h', hl', hp'⟩ := drawn_loop c1 c4 m1 m3 r n (k + 1) p3 l (some (.int ((i : Nat) : Int))) (some (eWord.en w)) (some (eRat.en q)) ⟨h.gd, h.lt, h.ln, h.bd, Nat.le_succ_of_le h.sz⟩ hl (by omega) hp3
      refine ⟨l', p', z4, z5, z6, ?_, by rw [List.length_cons, show k + (r.length + 1) = k + 1 + r.length by omega]; exact h', hl', hp'⟩
      rw [← e, List.map_cons]
      conv => lhs; unfold forL
      clear e
      generalize dS l = D1 at *
      generalize (List.range (1 + g).toNat).map (fun i : Nat => D.int ((i : Nat) : Int)) = RG at *
      generalize w.map D.int = WM at *
      generalize eWord.en w = WE at *
      generalize eRat.en q = QE at *
      simp (disch := first | assumption | decide | omega) only [bTm, runF, m0, sSeq, sSet, sIf, sRet, sRetN, sExpr, sSkip_ok, sSetA, sSetIx, sFor, sPar, sBind, sAug, eVar, eCon_ok, eOp2, eOp1, eCall, eCallM, eCallT, eTup, eLst, eArg, eIf, tVal, tNotF, tAndF, tOrF, eB, eAndF, eOrF, eNotF, eIxA, eIxO, eCatO, ixA_lst, ixA_tup, ixA_scr, eDNew, eDGet, eDGetO, eDPop, eSortK, eMM, aHoleQ, aHole, aNil_ok, aCons, oNone_ok, oSome, eSlice, eSliceL, iSeqA, iSeq, iRange, iArg, ePeek, tPeek, eOwnM, tYes_ok, bind_ok, bind_exc, bind_stuck, of_some, flatD, SW.gName, List.getD_cons_zero, List.getD_cons_succ, List.set_cons_zero, List.set_cons_succ, List.map_cons, List.map_nil, List.length_cons, List.length_nil, List.cons_append, List.nil_append, List.replicate, Nat.reduceAdd, Nat.reduceSub, addD_int, subD_int, negD_int, repD_int, modD_int, fdivD_int, ltA_int, leA_int, gtA_int, geA_int, eqD_int, neD_int, pow_10_18, pow_10_60, e1, hrg, eComp, e2, ti, e3, x0, decide_eq_true d0, Bool.not_true, Bool.false_eq_true, if_false, Option.getD_some]
    · have d0 : ¬ q.num = 0 := num_ne hq
      have hs : (dE eRat.en l).length < sizeLine := by rw [dE_len]; exact len_small (by have := h.sz; omega)
      have h2 : DicB c 3 (k + 1) 2520 1000 (setT l w q) := h.set hq (by omega) wg q1
      have hl2 : Letr (setT l w q) := fun x hx => by
        rcases mem_set hx with e | hx
        · rw [e]
          show w ≠ []
          exact List.length_pos_iff.mp (by omega)
        · exact hl x hx
      obtain ⟨l', p', z4, z5, z6, e, h', hl', hp'⟩ := drawn_loop c1 c4 m1 m3 r n (k + 1) p3 _ (some (.int ((i : Nat) : Int))) (some (eWord.en w)) (some (eRat.en q)) h2 hl2 (by omega) hp3
      refine ⟨l', p', z4, z5, z6, ?_, by rw [List.length_cons, show k + (r.length + 1) = k + 1 + r.length by omega]; exact h', hl', hp'⟩
      rw [← e, List.map_cons]
      conv => lhs; unfold forL
      have kw : keyT (eWord.en w) = some (wk w) := keyT_word w
      have pd := putD_E eRat.en w q l
      unfold dS at e2 ⊢
      clear e
      generalize dE eRat.en (setT l w q) = D2 at *
      generalize dE eRat.en l = D1 at *
      generalize wk w = WK at *
      generalize (List.range (1 + g).toNat).map (fun i : Nat => D.int ((i : Nat) : Int)) = RG at *
      generalize w.map D.int = WM at *
      generalize eWord.en w = WE at *
      generalize eRat.en q = QE at *
      simp (disch := first | assumption | decide | omega) only [bTm, runF, m0, sSeq, sSet, sIf, sRet, sRetN, sExpr, sSkip_ok, sSetA, sSetIx, sFor, sPar, sBind, sAug, eVar, eCon_ok, eOp2, eOp1, eCall, eCallM, eCallT, eTup, eLst, eArg, eIf, tVal, tNotF, tAndF, tOrF, eB, eAndF, eOrF, eNotF, eIxA, eIxO, eCatO, ixA_lst, ixA_tup, ixA_scr, eDNew, eDGet, eDGetO, eDPop, eSortK, eMM, aHoleQ, aHole, aNil_ok, aCons, oNone_ok, oSome, eSlice, eSliceL, iSeqA, iSeq, iRange, iArg, ePeek, tPeek, eOwnM, tYes_ok, bind_ok, bind_exc, bind_stuck, of_some, flatD, SW.gName, List.getD_cons_zero, List.getD_cons_succ, List.set_cons_zero, List.set_cons_succ, List.map_cons, List.map_nil, List.length_cons, List.length_nil, List.cons_append, List.nil_append, List.replicate, Nat.reduceAdd, Nat.reduceSub, addD_int, subD_int, negD_int, repD_int, modD_int, fdivD_int, ltA_int, leA_int, gtA_int, geA_int, eqD_int, neD_int, pow_10_18, pow_10_60, e1, hrg, eComp, e2, ti, e3, x0, decide_eq_false d0, Bool.not_false, kw, hs, pd, if_true, Option.getD_some, Option.bind_some]
theorem law_drawn_ok {c n : Nat} (c1 : 1 ≤ c) (c4 : c ≤ 4) {p : D} (hp : Ps (n + 40) p) : ∃ (A : SumT) (p' : D), m__law_drawn [p, .int ((c : Nat) : Int)] = .ok (eSum.en A, p') ∧ SumB c 3 2 2520 1000 A ∧ Letr A ∧ Ps n p' := by
  obtain ⟨g, p1, e1, g0, g1, hp1⟩ := take_ok (n := n + 39) (many := 3) hp (by decide) (by decide)
  obtain ⟨m, em, m1, m3⟩ : ∃ m : Nat, (1 : Int) + g = ((m : Nat) : Int) ∧ 1 ≤ m ∧ m ≤ 3 := ⟨(1 + g).toNat, by omega, by omega, by omega⟩
  obtain ⟨h, p2, e2, h0, h1, hp2⟩ := take_ok (n := n + 38) (many := 3) hp1 (by decide) (by decide)
  have hr := rangeD1 (j := h) h0 (by omega)
  obtain ⟨l, p3, z4, z5, z6, e3, hd, hl, hp3⟩ := drawn_loop c1 c4 m1 m3 (List.range h.toNat) (n + 5) 0 p2 [] none none none ⟨good_nil, by simp, by simp, by simp, Nat.le_refl _⟩ (by intro x hx; cases hx) (by rw [List.length_range]; omega) (hp2.mono (by rw [List.length_range]; omega))
  rw [List.length_range, Nat.zero_add] at hd
  have hd : DicB c 3 2 2520 1000 l := ⟨hd.gd, hd.lt, hd.ln, hd.bd, Nat.le_trans hd.sz (by omega)⟩
  have tl := law_told_ok hd.gd
  have tk := tok_sum (toldT l)
  have en : D.dct [] = dS [] := rfl
  refine ⟨toldT l, p3, ?_, hd.told, fun x hx => hl x ((told_perm hd.gd.nd).mem_iff.mp hx), hp3.mono (by omega)⟩
  have et : eSum.en (toldT l) = .lst ((toldT l).map eTerm.en) := rfl
  rw [et] at tl ⊢
  generalize (toldT l).map eTerm.en = T at *
  generalize dS l = DL at *
  generalize (List.range h.toNat).map (fun i : Nat => D.int ((i : Nat) : Int)) = RG at *
  unfold bTm at e3
  simp (disch := first | assumption | decide | omega) only [m__law_drawn, b__law_drawn, runF, m0, sSeq, sSet, sIf, sRet, sRetN, sExpr, sSkip_ok, sSetA, sSetIx, sFor, sPar, sBind, sAug, eVar, eCon_ok, eOp2, eOp1, eCall, eCallM, eCallT, eTup, eLst, eArg, eIf, tVal, tNotF, tAndF, tOrF, eB, eAndF, eOrF, eNotF, eIxA, eIxO, eCatO, ixA_lst, ixA_tup, ixA_scr, eDNew, eDGet, eDGetO, eDPop, eSortK, eMM, aHoleQ, aHole, aNil_ok, aCons, oNone_ok, oSome, eSlice, eSliceL, iSeqA, iSeq, iRange, iArg, ePeek, tPeek, eOwnM, tYes_ok, bind_ok, bind_exc, bind_stuck, of_some, flatD, SW.gName, List.getD_cons_zero, List.getD_cons_succ, List.set_cons_zero, List.set_cons_succ, List.map_cons, List.map_nil, List.length_cons, List.length_nil, List.cons_append, List.nil_append, List.replicate, Nat.reduceAdd, Nat.reduceSub, addD_int, subD_int, negD_int, repD_int, modD_int, fdivD_int, ltA_int, leA_int, gtA_int, geA_int, eqD_int, neD_int, pow_10_18, pow_10_60, en, e1, em, e2, hr, e3, ePeekL, tl, tk, if_true, Option.getD_some]
/-! bounds and words of what is drawn and told -/
theorem lv_drawn {c : Nat} {A : SumT} (h : SumB c 3 2 2520 1000 A) : Lv 12 c A := by
  refine ⟨2520, by decide, by decide, h.sm.good, fun w => ?_, fun p hp => ⟨Nat.le_trans (h.ln p hp) (by decide), h.lt p hp⟩⟩
  rw [Nat.one_mul]
  by_cases hw : w ∈ A.map (·.1)
  · obtain ⟨p, hp, rfl⟩ := List.mem_map.mp hw
    rw [coef_at h.sm.good hp]
    exact (h.bd p hp).mono (by decide)
  · rw [coef_not hw]; exact bd_zero _ _
theorem sm_whole {A : SumT} (h : Sm A) (hA : Letr A) : Sm ([([], 1)] ++ A) := by
  refine ⟨?_, fun p hp => ?_⟩
  · show List.Pairwise _ ([] :: A.map (·.1))
    refine List.pairwise_cons.mpr ⟨fun w hw => ?_, h.up⟩
    obtain ⟨p, hp, rfl⟩ := List.mem_map.mp hw
    have := List.length_pos_iff.mpr (hA p hp)
    unfold rkLt
    rw [if_neg (by rw [List.length_nil]; omega)]
    exact decide_eq_true (by rw [List.length_nil]; exact this)
  · rcases List.mem_append.mp hp with hp | hp
    · rw [List.mem_singleton.mp hp]
      exact fun z => by cases z
    · exact h.nz p hp
theorem lv_whole {c : Nat} {A : SumT} (h : SumB c 3 2 2520 1000 A) (hA : Letr A) : Lv 12 c ([([], 1)] ++ A) := by
  have sm := sm_whole h.sm hA
  refine ⟨2520, by decide, by decide, sm.good, fun w => ?_, fun p hp => ?_⟩
  · rw [Nat.one_mul]
    by_cases hw : w ∈ (([([], 1)] ++ A : SumT).map (·.1))
    · obtain ⟨p, hp, rfl⟩ := List.mem_map.mp hw
      rw [coef_at sm.good hp]
      rcases List.mem_append.mp hp with hp | hp
      · rw [List.mem_singleton.mp hp]
        exact ⟨⟨2520, rfl⟩, by decide⟩
      · exact (h.bd p hp).mono (by decide)
    · rw [coef_not hw]; exact bd_zero _ _
  · rcases List.mem_append.mp hp with hp | hp
    · rw [List.mem_singleton.mp hp]
      exact ⟨by decide, by simp⟩
    · exact ⟨Nat.le_trans (h.ln p hp) (by decide), h.lt p hp⟩
theorem lv_ok {c e : Nat} {A : SumT} (h : Lv e c A) (sm : Sm A) : SumOk c A := ⟨sm, fun p hp => h.wd p hp⟩
theorem gath {A : SumT} (nd : (A.map (·.1)).Nodup) : m_gathered [eSum.en A] = .ok (dS A, .non) := by
  have e := dict_sum nd
  simp (disch := first | assumption | decide | omega) only [m_gathered, b_gathered, runF, m0, sSeq, sSet, sIf, sRet, sRetN, sExpr, sSkip_ok, sSetA, sSetIx, sFor, sPar, sBind, sAug, eVar, eCon_ok, eOp2, eOp1, eCall, eCallM, eCallT, eTup, eLst, eArg, eIf, tVal, tNotF, tAndF, tOrF, eB, eAndF, eOrF, eNotF, eIxA, eIxO, eCatO, ixA_lst, ixA_tup, ixA_scr, eDNew, eDGet, eDGetO, eDPop, eSortK, eMM, aHoleQ, aHole, aNil_ok, aCons, oNone_ok, oSome, eSlice, eSliceL, iSeqA, iSeq, iRange, iArg, ePeek, tPeek, eOwnM, tYes_ok, bind_ok, bind_exc, bind_stuck, of_some, flatD, SW.gName, List.getD_cons_zero, List.getD_cons_succ, List.set_cons_zero, List.set_cons_succ, List.map_cons, List.map_nil, List.length_cons, List.length_nil, List.cons_append, List.nil_append, List.replicate, Nat.reduceAdd, Nat.reduceSub, addD_int, subD_int, negD_int, repD_int, modD_int, fdivD_int, ltA_int, leA_int, gtA_int, geA_int, eqD_int, neD_int, pow_10_18, pow_10_60, eDictL, e]
theorem check_c {c : Nat} (c1 : 1 ≤ c) (c4 : c ≤ 4) : m_check_count [.int ((c : Nat) : Int)] = .ok (.non, .non) := by
  have d1 : ¬ ((c : Nat) : Int) < 1 := by omega
  have d4 : ¬ (4 : Int) < ((c : Nat) : Int) := by omega
  have iw : m_is_whole [.int ((c : Nat) : Int)] = .ok (.bl true, .non) := rfl
  simp (disch := first | assumption | decide | omega) only [m_check_count, b_check_count, runF, m0, sSeq, sSet, sIf, sRet, sRetN, sExpr, sSkip_ok, sSetA, sSetIx, sFor, sPar, sBind, sAug, eVar, eCon_ok, eOp2, eOp1, eCall, eCallM, eCallT, eTup, eLst, eArg, eIf, tVal, tNotF, tAndF, tOrF, eB, eAndF, eOrF, eNotF, eIxA, eIxO, eCatO, ixA_lst, ixA_tup, ixA_scr, eDNew, eDGet, eDGetO, eDPop, eSortK, eMM, aHoleQ, aHole, aNil_ok, aCons, oNone_ok, oSome, eSlice, eSliceL, iSeqA, iSeq, iRange, iArg, ePeek, tPeek, eOwnM, tYes_ok, bind_ok, bind_exc, bind_stuck, of_some, flatD, SW.gName, List.getD_cons_zero, List.getD_cons_succ, List.set_cons_zero, List.set_cons_succ, List.map_cons, List.map_nil, List.length_cons, List.length_nil, List.cons_append, List.nil_append, List.replicate, Nat.reduceAdd, Nat.reduceSub, addD_int, subD_int, negD_int, repD_int, modD_int, fdivD_int, ltA_int, leA_int, gtA_int, geA_int, eqD_int, neD_int, pow_10_18, pow_10_60, k_MOST_LETTERS, iw, decide_eq_false d1, decide_eq_false d4, Bool.not_true, Bool.false_eq_true, if_false]
theorem in_coef {A : SumT} (g : Good A) : (getT A []).isSome = decide (coef A [] ≠ 0) := by
  have h1 := coef_mem (w := []) g
  have h2 := isSome_mem (l := A) (w := [])
  by_cases h : coef A [] = 0
  · rw [decide_eq_false (by simpa using h)]
    cases hs : (getT A []).isSome with
    | false => rfl
    | true => exact absurd h (h1.mp (h2.mp hs))
  · rw [decide_eq_true h]
    exact h2.mpr (h1.mpr h)
theorem n11 (q : Rat) : neD (eRat.en q) (.tup [.int 1, .int 1]) = some (.bl (!decide (q = 1))) := neD_rat q 1
theorem get_dS (A : SumT) : (valD (dE eRat.en A) (wk [])).getD (.tup [.int 0, .int 1]) = eRat.en (coef A []) := by rw [valD_E]; exact get_E2 A []
theorem grown_fine {c e : Nat} {A : SumT} (c1 : 1 ≤ c) (c4 : c ≤ 4) (hA : Lv e c A) (sA : Sm A) (he : e ≤ 20000) (h : coef A [] = 0) : m_grown [.int ((c : Nat) : Int), eSum.en A] = .ok (eSum.en (grownT 5 A), .non) := by
  have e1 := check_c c1 c4
  have e2 : m_check_sum [.int c, eSum.en A] = .ok (.non, .non) := check_sum_ok (lv_ok hA sA)
  have e3 := gath sA.good.nd
  have e4 : m_grown_short [eSum.en A, .int 5] = .ok (eSum.en (grownT 5 A), .non) := grown_short_ok (m := 5) hA (by omega) (by decide) he
  have km : k_MOST = .int 5 := rfl
  have i1 : inA (.tup []) (dS A) = some (.bl (getT A []).isSome) := inA_E A []
  rw [in_coef sA.good, decide_eq_false (by simpa using h)] at i1
  generalize eSum.en (grownT 5 A) = R at *
  generalize dS A = DA at *
  generalize eSum.en A = EA at *
  simp (disch := first | assumption | decide | omega) only [m_grown, b_grown, runF, m0, sSeq, sSet, sIf, sRet, sRetN, sExpr, sSkip_ok, sSetA, sSetIx, sFor, sPar, sBind, sAug, eVar, eCon_ok, eOp2, eOp1, eCall, eCallM, eCallT, eTup, eLst, eArg, eIf, tVal, tNotF, tAndF, tOrF, eB, eAndF, eOrF, eNotF, eIxA, eIxO, eCatO, ixA_lst, ixA_tup, ixA_scr, eDNew, eDGet, eDGetO, eDPop, eSortK, eMM, aHoleQ, aHole, aNil_ok, aCons, oNone_ok, oSome, eSlice, eSliceL, iSeqA, iSeq, iRange, iArg, ePeek, tPeek, eOwnM, tYes_ok, bind_ok, bind_exc, bind_stuck, of_some, flatD, SW.gName, List.getD_cons_zero, List.getD_cons_succ, List.set_cons_zero, List.set_cons_succ, List.map_cons, List.map_nil, List.length_cons, List.length_nil, List.cons_append, List.nil_append, List.replicate, Nat.reduceAdd, Nat.reduceSub, addD_int, subD_int, negD_int, repD_int, modD_int, fdivD_int, ltA_int, leA_int, gtA_int, geA_int, eqD_int, neD_int, pow_10_18, pow_10_60, e1, e2, e3, i1, km, e4, Bool.false_eq_true, if_false]
theorem logged_fine {c e : Nat} {A : SumT} (c1 : 1 ≤ c) (c4 : c ≤ 4) (hA : Lv e c A) (sA : Sm A) (he : e ≤ 20000) (h : coef A [] = 1) : m_logged [.int ((c : Nat) : Int), eSum.en A] = .ok (eSum.en (loggedT 5 A), .non) := by
  have e1 := check_c c1 c4
  have e2 : m_check_sum [.int c, eSum.en A] = .ok (.non, .non) := check_sum_ok (lv_ok hA sA)
  have e3 := gath sA.good.nd
  have e4 : m_logged_short [eSum.en A, .int 5] = .ok (eSum.en (loggedT 5 A), .non) := logged_short_ok (m := 5) hA (by omega) (by decide) he
  have km : k_MOST = .int 5 := rfl
  have k0 : k_NOUGHT = .tup [.int 0, .int 1] := rfl
  have k1 : k_ONE = .tup [.int 1, .int 1] := rfl
  have gd := get_dS A
  have kw : keyT (.tup []) = some (wk []) := keyT_word []
  have nq := n11 (coef A [])
  rw [decide_eq_true h] at nq
  unfold dS at e3
  generalize eSum.en (loggedT 5 A) = R at *
  generalize eSum.en A = EA at *
  generalize dE eRat.en A = DA at *
  generalize wk [] = WK at *
  simp (disch := first | assumption | decide | omega) only [m_logged, b_logged, runF, m0, sSeq, sSet, sIf, sRet, sRetN, sExpr, sSkip_ok, sSetA, sSetIx, sFor, sPar, sBind, sAug, eVar, eCon_ok, eOp2, eOp1, eCall, eCallM, eCallT, eTup, eLst, eArg, eIf, tVal, tNotF, tAndF, tOrF, eB, eAndF, eOrF, eNotF, eIxA, eIxO, eCatO, ixA_lst, ixA_tup, ixA_scr, eDNew, eDGet, eDGetO, eDPop, eSortK, eMM, aHoleQ, aHole, aNil_ok, aCons, oNone_ok, oSome, eSlice, eSliceL, iSeqA, iSeq, iRange, iArg, ePeek, tPeek, eOwnM, tYes_ok, bind_ok, bind_exc, bind_stuck, of_some, flatD, SW.gName, List.getD_cons_zero, List.getD_cons_succ, List.set_cons_zero, List.set_cons_succ, List.map_cons, List.map_nil, List.length_cons, List.length_nil, List.cons_append, List.nil_append, List.replicate, Nat.reduceAdd, Nat.reduceSub, addD_int, subD_int, negD_int, repD_int, modD_int, fdivD_int, ltA_int, leA_int, gtA_int, geA_int, eqD_int, neD_int, pow_10_18, pow_10_60, e1, e2, e3, kw, k0, k1, gd, nq, km, e4, Bool.not_true, Bool.false_eq_true, if_false, Option.map_some]
/-! the law's own -/
theorem law_grown_fine {c e : Nat} {A : SumT} (c4 : c ≤ 4) (hA : Lv e c A) (he : e ≤ 20000) : m__law_grown [eSum.en A] = .ok (eSum.en (grownT 5 A), .non) := by
  have e1 := jl_powers hA (by omega) he (qs := gShr) rfl gShr_ok
  rw [gShr_en] at e1
  have hP := powers_lv (m := 5) hA (by omega) (by decide) (qs := gShr) rfl gShr_ok
  have l := hP.len (by omega)
  have gd := (powers_good 5 A gShr)
  have z0 : Sz (2 * (25 * e + 900) + 1) (coef (powersM 5 A gShr) []) := by
    by_cases hw : [] ∈ (powersM 5 A gShr).map (·.1)
    · obtain ⟨p, hp, ew⟩ := List.mem_map.mp hw
      rw [← ew, coef_at gd hp]
      exact hP.sz hp
    · rw [coef_not hw]
      exact (bd_zero 1 1).sz (by decide) (Nat.one_lt_two_pow (by omega)) (Nat.one_lt_two_pow (by omega))
  have e2 : m__law_put [dS (powersM 5 A gShr), .tup [], .tup [.int 1, .int 1]] = .ok (.non, dS (addT (powersM 5 A gShr) [] 1)) := law_put_g (w := []) (q := 1) z0 (j := 8) (shr_sz ⟨⟨120, rfl⟩, by decide⟩) (by omega) (by omega)
  have e3 := law_told_ok (gd.add [] 1)
  have h2 : eRat.en (mkRat 1 2) = .tup [.int 1, .int 2] := rat_en (by decide +kernel) (by decide +kernel)
  have h6 : eRat.en (mkRat 1 6) = .tup [.int 1, .int 6] := rat_en (by decide +kernel) (by decide +kernel)
  have h24 : eRat.en (mkRat 1 24) = .tup [.int 1, .int 24] := rat_en (by decide +kernel) (by decide +kernel)
  have h120 : eRat.en (mkRat 1 120) = .tup [.int 1, .int 120] := rat_en (by decide +kernel) (by decide +kernel)
  rw [h2, h6, h24, h120] at e1
  have tk := tok_sum (toldT (addT (powersM 5 A gShr) [] 1))
  have ed : eSum.en (toldT (addT (powersM 5 A gShr) [] 1)) = .lst ((toldT (addT (powersM 5 A gShr) [] 1)).map eTerm.en) := rfl
  have eg : eSum.en (grownT 5 A) = .lst ((toldT (addT (powersM 5 A gShr) [] 1)).map eTerm.en) := rfl
  rw [eg]
  rw [ed] at e3
  generalize (toldT (addT (powersM 5 A gShr) [] 1)).map eTerm.en = T at *
  generalize dS (addT (powersM 5 A gShr) [] 1) = D2 at *
  generalize dS (powersM 5 A gShr) = D1 at *
  generalize eSum.en A = AA at *
  simp (disch := first | assumption | decide | omega) only [ePeekL, tk, if_true, m__law_grown, b__law_grown, runF, m0, sSeq, sSet, sIf, sRet, sRetN, sExpr, sSkip_ok, sSetA, sSetIx, sFor, sPar, sBind, sAug, eVar, eCon_ok, eOp2, eOp1, eCall, eCallM, eCallT, eTup, eLst, eArg, eIf, tVal, tNotF, tAndF, tOrF, eB, eAndF, eOrF, eNotF, eIxA, eIxO, eCatO, ixA_lst, ixA_tup, ixA_scr, eDNew, eDGet, eDGetO, eDPop, eSortK, eMM, aHoleQ, aHole, aNil_ok, aCons, oNone_ok, oSome, eSlice, eSliceL, iSeqA, iSeq, iRange, iArg, ePeek, tPeek, eOwnM, tYes_ok, bind_ok, bind_exc, bind_stuck, of_some, flatD, SW.gName, List.getD_cons_zero, List.getD_cons_succ, List.set_cons_zero, List.set_cons_succ, List.map_cons, List.map_nil, List.length_cons, List.length_nil, List.cons_append, List.nil_append, List.replicate, Nat.reduceAdd, Nat.reduceSub, addD_int, subD_int, negD_int, repD_int, modD_int, fdivD_int, ltA_int, leA_int, gtA_int, geA_int, eqD_int, neD_int, pow_10_18, pow_10_60, e1, e2, e3, Option.getD_some]
theorem law_logged_fine {c e : Nat} {A : SumT} (c4 : c ≤ 4) (hA : Lv e c A) (he : e ≤ 20000) : m__law_logged [eSum.en A] = .ok (eSum.en (loggedT 5 A), .non) := by
  have e1 := jl_powers (rest_lv hA) (by omega) he (qs := lShr) rfl lShr_ok
  have e3 := law_told_ok (powers_good 5 (restS A) lShr)
  have ce := compL_of (vs := [2, 3]) (b := gTup 2 (gCons (gName 2) (gCons (gName 3) gNil))) (tt := (tVal (eOp2 neD (eVar 2) (eTup aNil)))) (fe := (eTup (aCons (eVar 2) (aCons (eVar 3) aNil)))) (f := eTerm.en) (ρ := [some (eSum.en A), none, none, none]) (c := fun p => decide (p.1 ≠ [])) (h := eTerm.en) A (by
    intro p hp
    have n1 := ne_nil_w p.1
    have et := term_en p
    refine ⟨[some (eSum.en A), none, some (eWord.en p.1), some (eRat.en p.2)], rfl, [some (eSum.en A), none, some (eWord.en p.1), some (eRat.en p.2)], ?_, (fun _ => rfl), fun _ => ⟨[some (eSum.en A), none, some (eWord.en p.1), some (eRat.en p.2)], ?_, rfl⟩⟩
    · simp (disch := first | assumption | decide | omega) only [runF, m0, sSeq, sSet, sIf, sRet, sRetN, sExpr, sSkip_ok, sSetA, sSetIx, sFor, sPar, sBind, sAug, eVar, eCon_ok, eOp2, eOp1, eCall, eCallM, eCallT, eTup, eLst, eArg, eIf, tVal, tNotF, tAndF, tOrF, eB, eAndF, eOrF, eNotF, eIxA, eIxO, eCatO, ixA_lst, ixA_tup, ixA_scr, eDNew, eDGet, eDGetO, eDPop, eSortK, eMM, aHoleQ, aHole, aNil_ok, aCons, oNone_ok, oSome, eSlice, eSliceL, iSeqA, iSeq, iRange, iArg, ePeek, tPeek, eOwnM, tYes_ok, bind_ok, bind_exc, bind_stuck, of_some, flatD, SW.gName, List.getD_cons_zero, List.getD_cons_succ, List.set_cons_zero, List.set_cons_succ, List.map_cons, List.map_nil, List.length_cons, List.length_nil, List.cons_append, List.nil_append, List.replicate, Nat.reduceAdd, Nat.reduceSub, addD_int, subD_int, negD_int, repD_int, modD_int, fdivD_int, ltA_int, leA_int, gtA_int, geA_int, eqD_int, neD_int, pow_10_18, pow_10_60, n1]
    · rw [et]
      simp (disch := first | assumption | decide | omega) only [runF, m0, sSeq, sSet, sIf, sRet, sRetN, sExpr, sSkip_ok, sSetA, sSetIx, sFor, sPar, sBind, sAug, eVar, eCon_ok, eOp2, eOp1, eCall, eCallM, eCallT, eTup, eLst, eArg, eIf, tVal, tNotF, tAndF, tOrF, eB, eAndF, eOrF, eNotF, eIxA, eIxO, eCatO, ixA_lst, ixA_tup, ixA_scr, eDNew, eDGet, eDGetO, eDPop, eSortK, eMM, aHoleQ, aHole, aNil_ok, aCons, oNone_ok, oSome, eSlice, eSliceL, iSeqA, iSeq, iRange, iArg, ePeek, tPeek, eOwnM, tYes_ok, bind_ok, bind_exc, bind_stuck, of_some, flatD, SW.gName, List.getD_cons_zero, List.getD_cons_succ, List.set_cons_zero, List.set_cons_succ, List.map_cons, List.map_nil, List.length_cons, List.length_nil, List.cons_append, List.nil_append, List.replicate, Nat.reduceAdd, Nat.reduceSub, addD_int, subD_int, negD_int, repD_int, modD_int, fdivD_int, ltA_int, leA_int, gtA_int, geA_int, eqD_int, neD_int, pow_10_18, pow_10_60])
  have it : itemsA (eSum.en A) = some (A.map eTerm.en) := rfl
  have er : D.lst ((restS A).map eTerm.en) = eSum.en (restS A) := rfl
  have ef : A.filter (fun p => decide (p.1 ≠ [])) = restS A := rfl
  rw [ef] at ce
  rw [lShr_en] at e1
  have ng : negD (.int 1) = some (.int (-1)) := rfl
  have el : eSum.en (loggedT 5 A) = eSum.en (toldT (powersM 5 (restS A) lShr)) := rfl
  rw [el]
  generalize eSum.en (toldT (powersM 5 (restS A) lShr)) = T at *
  generalize dS (powersM 5 (restS A) lShr) = D1 at *
  generalize (restS A).map eTerm.en = RM at *
  generalize A.map eTerm.en = AM at *
  generalize eSum.en (restS A) = RR at *
  generalize eSum.en A = AA at *
  simp (disch := first | assumption | decide | omega) only [m__law_logged, b__law_logged, runF, m0, sSeq, sSet, sIf, sRet, sRetN, sExpr, sSkip_ok, sSetA, sSetIx, sFor, sPar, sBind, sAug, eVar, eCon_ok, eOp2, eOp1, eCall, eCallM, eCallT, eTup, eLst, eArg, eIf, tVal, tNotF, tAndF, tOrF, eB, eAndF, eOrF, eNotF, eIxA, eIxO, eCatO, ixA_lst, ixA_tup, ixA_scr, eDNew, eDGet, eDGetO, eDPop, eSortK, eMM, aHoleQ, aHole, aNil_ok, aCons, oNone_ok, oSome, eSlice, eSliceL, iSeqA, iSeq, iRange, iArg, ePeek, tPeek, eOwnM, tYes_ok, bind_ok, bind_exc, bind_stuck, of_some, flatD, SW.gName, List.getD_cons_zero, List.getD_cons_succ, List.set_cons_zero, List.set_cons_succ, List.map_cons, List.map_nil, List.length_cons, List.length_nil, List.cons_append, List.nil_append, List.replicate, Nat.reduceAdd, Nat.reduceSub, addD_int, subD_int, negD_int, repD_int, modD_int, fdivD_int, ltA_int, leA_int, gtA_int, geA_int, eqD_int, neD_int, pow_10_18, pow_10_60, it, eComp, ce, er, ng, e1, e3, Option.getD_some]
/-! how long the numbers are -/
theorem bd_lin {Na Ma N M : Nat} (n0 : Na * N ≠ 0) {f : Wd → Rat} (hf : ∀ u, Bd N M (f u)) : ∀ {A : SumT}, (∀ p ∈ A, Bd Na Ma p.2) → Bd (Na * N) (A.length * (Ma * M)) (linS f A)
  | [], _ => bd_zero _ _
  | p :: A, h => by
    have h1 := (h p (by simp)).mul (hf p.1)
    have h2 := bd_lin n0 hf (A := A) fun q hq => h q (List.mem_cons_of_mem _ hq)
    have := h1.add n0 h2
    rw [List.length_cons, Nat.succ_mul, Nat.add_comm]
    exact this
theorem bd_pol {A : SumT} (hA : ∀ p ∈ A, Bd 2520 1000 p.2) (h2 : A.length ≤ 2) : ∀ (cs : List Rat) {N M : Nat} {f : Wd → Rat}, N ≠ 0 → (∀ c ∈ cs, Shr c) → (∀ u, Bd N M (f u)) → ∀ u, Bd (120 * 2520 ^ cs.length * N) (cs.length * 2000 ^ cs.length * M) (polS A cs f u)
  | [], _, _, _, _, _, _, _ => bd_zero _ _
  | c :: cs, N, M, f, n0, hc, hf, u => by
    have hm : ∀ u, Bd (2520 * N) (2000 * M) (mvS A f u) := fun u => by
      have := bd_lin (Na := 2520) (Ma := 1000) (by omega) (f := fun v => f (u ++ v)) (fun v => hf (u ++ v)) hA
      exact this.mono (by
        have := Nat.mul_le_mul_right (1000 * M) h2
        omega)
    have h1 := (hc c (by simp)).mul (hf u)
    have h3 := bd_pol hA h2 cs (N := 2520 * N) (M := 2000 * M) (by omega) (fun x hx => hc x (List.mem_cons_of_mem _ hx)) hm u
    have hN : 120 * 2520 ^ cs.length * (2520 * N) = 120 * 2520 ^ (cs.length + 1) * N := by rw [Nat.pow_succ]; ac_rfl
    have hM : cs.length * 2000 ^ cs.length * (2000 * M) = cs.length * (2000 ^ (cs.length + 1) * M) := by rw [Nat.pow_succ]; ac_rfl
    rw [hN, hM] at h3
    have h4 := h1.lift (N' := 120 * 2520 ^ (cs.length + 1) * N) ⟨2520 ^ (cs.length + 1), by ac_rfl⟩
    have n1 : 120 * 2520 ^ (cs.length + 1) * N ≠ 0 := by
      have : 0 < 2520 ^ (cs.length + 1) := Nat.pow_pos (by decide)
      exact Nat.mul_ne_zero (by omega) n0
    have := h4.add n1 h3
    rw [List.length_cons]
    refine this.mono ?_
    have p1 : 1 ≤ 2000 ^ (cs.length + 1) := Nat.pow_pos (by decide)
    have p2 : M ≤ 2000 ^ (cs.length + 1) * M := Nat.le_mul_of_pos_left _ p1
    rw [Nat.mul_assoc (cs.length + 1), Nat.add_mul, Nat.one_mul, Nat.one_mul]
    omega
theorem ind_bd (w u : Wd) : Bd 1 1 (ind w u) := by
  unfold ind
  split
  · exact ⟨⟨1, rfl⟩, by decide⟩
  · exact bd_zero _ _
theorem ind_lo5 {w : Wd} (h : w.length ≤ 5) : LoF 6 (ind w) := fun u hu => by
  unfold ind
  rw [if_neg]
  intro e
  rw [e] at hu
  omega
theorem sh_of {N M : Nat} {q : Rat} (h : Bd N M q) (h0 : N ≠ 0) (h1 : N < 10 ^ 23) (h2 : M * N < 10 ^ 44) : q.num.natAbs < 10 ^ 44 ∧ q.den < 10 ^ 23 := by
  have hd : q.den ≤ N := Nat.le_of_dvd (by omega) h.d
  refine ⟨Nat.lt_of_le_of_lt (Nat.le_trans h.n (Nat.mul_le_mul_left _ hd)) h2, by omega⟩
theorem shw_looks {c e : Nat} (c4 : c ≤ 4) {A G : SumT} (hA : ∀ p ∈ A, Bd 2520 1000 p.2) (h2 : A.length ≤ 2) (hG : Lv e c G) {cs : List Rat} (hl : cs.length = 6) (hc : ∀ x ∈ cs, Shr x) (h : ∀ f, LoF 6 f → linS f G = polS A cs f []) : Shw 4 2000000 (eSum.en G) := by
  have ln := hG.len (by omega)
  refine (shw_lst (n := 3) (k := 106) (L := G.map eTerm.en) fun d hd => ?_).up (Nat.le_refl _) (by rw [List.length_map]; omega)
  obtain ⟨p, hp, rfl⟩ := List.mem_map.mp hd
  have w := hG.wd p hp
  have hb := bd_pol hA h2 cs (N := 1) (M := 1) (by decide) hc (ind_bd p.1) []
  rw [← h _ (ind_lo5 w.1), lin_ind hG.good.nd, coef_at hG.good hp, hl] at hb
  have hs := sh_of hb (by decide) (by decide) (by decide)
  exact shw_term (a := 44) (b := 23) (by decide) (by decide) (by decide) (by decide) ⟨w.1, fun x hx => ⟨(w.2 x hx).1, by have := (w.2 x hx).2; omega⟩, hs.1, hs.2⟩

/-! mirrors with trees -/
theorem wipeR_nil (ρ : Rho) : wipeR ρ [] = ρ := rfl
theorem backR_nil (ρ ρ' : Rho) : backR [] ρ ρ' = ρ' := rfl
theorem putU_nil (ρ ρ' : Rho) : putU [] ρ ρ' = ρ' := rfl
theorem putV_nil (ρ ρ' : Rho) : putV [] ρ ρ' = ρ' := rfl
theorem okUs_nil (ρ : Rho) : okUs [] ρ = true := rfl

/-! law_true of k58 -/
theorem runF_rt {n : Nat} {b : Rho → Out Fl} {ds : List D} {d : D} {ρ : Rho} (h : b (ds.map some ++ List.replicate (n - ds.length) none) = .ok (.rt d ρ)) : runF n none b ds = .ok (d, m0 ρ none) := by
  unfold runF
  rw [h]
abbrev bTurn : Rho → Out Fl := (sTree (sSeqT (tSetT [] [] 9 (eLst (aCons (eTrO (eCall m_grown (aCons (eVar 3) (aCons (eOp2 ixA (eVar 7) (eCon (.int 0))) aNil)))) (aCons (eTrO (eCall m_logged (aCons (eVar 3) (aCons (eOp2 ixA (eVar 7) (eCon (.int 1))) aNil)))) aNil)))) (sSeqT (sIf (tTest [] [] (tOrF (tVal (eOp2 neS (eArg strD (aCons (eVar 9) aNil)) (eArg strD (aCons (eVar 6) aNil)))) (tVal (eOp2 neD (eVar 7) (eLst (aCons (eVar 4) (aCons (eVar 5) aNil))))))) (tBase none [9] (sRet (eCon (.bl false)))) sSkip) (sSeqT (tSetT [] [] 10 (eLst (aCons (eTrO (eCall m_logged (aCons (eVar 3) (aCons (eOp2 ixA (eVar 9) (eCon (.int 0))) aNil)))) (aCons (eTrO (eCall m_grown (aCons (eVar 3) (aCons (eOp2 ixA (eVar 9) (eCon (.int 1))) aNil)))) aNil)))) (sSeqT (sIf (tTest [] [] (tOrF (tVal (eOp2 neD (eVar 10) (eLst (aCons (eVar 4) (aCons (eVar 5) aNil))))) (tVal (eOp2 neD (eVar 9) (eVar 6))))) (tBase none [10, 9] (sRet (eCon (.bl false)))) sSkip) (tForClear2 9 10 11))))))
abbrev bCell : Rho → Out Fl := (sSeq (sSet 2 (eCall m__law_purse (aCons (eCall m__law_at (aCons (eVar 0) (aCons (eVar 1) aNil))) (aCons (eVar 1) aNil)))) (sSeq (sSet 3 (eOp2 addD (eCon (.int 1)) (eCallM m__law_take 0 2 (aHoleQ 2 (aCons (eCon (.int 4)) aNil))))) (sSeq (sSet 4 (eCallM m__law_drawn 0 2 (aHoleQ 2 (aCons (eVar 3) aNil)))) (sSeq (sSet 5 (eOp2 addD (eLst (aCons (eTup (aCons (eTup aNil) (aCons (eTup (aCons (eCon (.int 1)) (aCons (eCon (.int 1)) aNil))) aNil))) aNil)) (eVar 4))) (sSeq (sSet 6 (eLst (aCons (eCall m__law_grown (aCons (eVar 4) aNil)) (aCons (eCall m__law_logged (aCons (eVar 5) aNil)) aNil)))) (sSeq (sSet 7 (eLst (aCons (eArg listD (aCons (eVar 4) aNil)) (aCons (eArg listD (aCons (eVar 5) aNil)) aNil)))) (sFor (iRange (aCons (eCon (.int 2)) aNil)) (gName 8) (sTree (sSeqT (tSetT [] [] 9 (eLst (aCons (eTrO (eCall m_grown (aCons (eVar 3) (aCons (eOp2 ixA (eVar 7) (eCon (.int 0))) aNil)))) (aCons (eTrO (eCall m_logged (aCons (eVar 3) (aCons (eOp2 ixA (eVar 7) (eCon (.int 1))) aNil)))) aNil)))) (sSeqT (sIf (tTest [] [] (tOrF (tVal (eOp2 neS (eArg strD (aCons (eVar 9) aNil)) (eArg strD (aCons (eVar 6) aNil)))) (tVal (eOp2 neD (eVar 7) (eLst (aCons (eVar 4) (aCons (eVar 5) aNil))))))) (tBase none [9] (sRet (eCon (.bl false)))) sSkip) (sSeqT (tSetT [] [] 10 (eLst (aCons (eTrO (eCall m_logged (aCons (eVar 3) (aCons (eOp2 ixA (eVar 9) (eCon (.int 0))) aNil)))) (aCons (eTrO (eCall m_grown (aCons (eVar 3) (aCons (eOp2 ixA (eVar 9) (eCon (.int 1))) aNil)))) aNil)))) (sSeqT (sIf (tTest [] [] (tOrF (tVal (eOp2 neD (eVar 10) (eLst (aCons (eVar 4) (aCons (eVar 5) aNil))))) (tVal (eOp2 neD (eVar 9) (eVar 6))))) (tBase none [10, 9] (sRet (eCon (.bl false)))) sSkip) (tForClear2 9 10 11)))))))))))))
section
variable {y0 y1 y2 : Option D} {c : Int} {AX WX GX LX : List D} {t : Str}
theorem turn_w (gA : m_grown [.int c, .lst AX] = .ok (.lst GX, .non)) (lW : m_logged [.int c, .lst WX] = .ok (.lst LX, .non)) (lG : m_logged [.int c, .lst GX] = .ok (.lst AX, .non)) (gL : m_grown [.int c, .lst LX] = .ok (.lst WX, .non)) (tA : tokL AX = true) (tW : tokL WX = true) (tG : tokL GX = true) (tL : tokL LX = true)
    (st : strD [.lst [.lst GX, .lst LX]] = some (.str t)) (n1 : neD (.lst [.lst AX, .lst WX]) (.lst [.lst AX, .lst WX]) = some (.bl false)) (n2 : neD (.lst [.lst GX, .lst LX]) (.lst [.lst GX, .lst LX]) = some (.bl false)) (y8 y9 y10 y11 : Option D) :
    bTurn [y0, y1, y2, some (.int c), some (.lst AX), some (.lst WX), some (.lst [.lst GX, .lst LX]), some (.lst [.lst AX, .lst WX]), y8, y9, y10, y11] = .ok (.nx [y0, y1, y2, some (.int c), some (.lst AX), some (.lst WX), some (.lst [.lst GX, .lst LX]), some (.lst [.lst AX, .lst WX]), y8, some (.lst [.lst [], .lst []]), some (.lst [.lst [], .lst []]), none]) := by
  have ns := neS_str t
  have x0 : ∀ X Y : D, ixD (.lst [X, Y]) (.int 0) = some X := fun _ _ => rfl
  have x1 : ∀ X Y : D, ixD (.lst [X, Y]) (.int 1) = some Y := fun _ _ => rfl
  have a0 : ∀ X Y : D, ixA (.lst [X, Y]) (.int 0) = some X := fun _ _ => rfl
  have a1 : ∀ X Y : D, ixA (.lst [X, Y]) (.int 1) = some Y := fun _ _ => rfl
  have il : ∀ X Y : List D, [D.lst X, D.lst Y].all isLst = true := fun _ _ => rfl
  have d1 : decide (11 < 12) = true := rfl
  have d2 : decide (9 < 12) = true := rfl
  have d3 : decide (10 < 12) = true := rfl
  have d4 : decide (2 + 2 ≤ sizeLine) = true := rfl
  simp (disch := first | assumption | decide | omega) only [bTurn, runF, m0, sSeq, sSet, sIf, sRet, sRetN, sExpr, sSkip_ok, sSetA, sSetIx, sFor, sPar, sBind, sAug, eVar, eCon_ok, eOp2, eOp1, eCall, eCallM, eCallT, eTup, eLst, eArg, eIf, tVal, tNotF, tAndF, tOrF, eB, eAndF, eOrF, eNotF, eIxA, eIxO, eCatO, ixA_lst, ixA_tup, ixA_scr, eDNew, eDGet, eDGetO, eDPop, eSortK, eMM, aHoleQ, aHole, aNil_ok, aCons, oNone_ok, oSome, eSlice, eSliceL, iSeqA, iSeq, iRange, iArg, ePeek, tPeek, eOwnM, tYes_ok, bind_ok, bind_exc, bind_stuck, of_some, flatD, SW.gName, List.getD_cons_zero, List.getD_cons_succ, List.set_cons_zero, List.set_cons_succ, List.map_cons, List.map_nil, List.length_cons, List.length_nil, List.cons_append, List.nil_append, List.replicate, Nat.reduceAdd, Nat.reduceSub, addD_int, subD_int, negD_int, repD_int, modD_int, fdivD_int, ltA_int, leA_int, gtA_int, geA_int, eqD_int, neD_int, pow_10_18, pow_10_60, sSeqT, tBase, tLook, SW.tTest, tSetT, tSetO, tRetT, tApp, tClear, tForClear, tForClear2, tClearIx, SW.tFor, tRecall, eTrO, eTrL, sTree, wipeR_nil, backR_nil, putU_nil, putV_nil, okUs_nil, wipeR, backR, putU, putV, ownAtTok, List.length_set, Bool.and_true, Bool.true_and, eq_self, itemsT, likeT, if_true, decide_true, gA, lW, lG, gL, tA, tW, tG, tL, st, ns, n1, n2, x0, x1, a0, a1, il, d1, d2, d3, d4, tForClear2, Bool.false_eq_true, if_false, if_true, Option.getD_some]
end
theorem cell_ok (ns : List Int) (k : Nat) (k3 : k < 10) (y2 y3 y4 y5 y6 y7 y8 y9 y10 y11 : Option D) :
    ∃ z2 z3 z4 z5 z6 z7 z8 z9 z10 z11, bCell [some (.scr ns), some (.int (k : Nat)), y2, y3, y4, y5, y6, y7, y8, y9, y10, y11] = .ok (.nx [some (.scr ns), some (.int (k : Nat)), z2, z3, z4, z5, z6, z7, z8, z9, z10, z11]) := by
  obtain ⟨i, hi⟩ := law_at_ok ns (k : Nat) (by omega)
  obtain ⟨p0, e0, hp0⟩ := purse_ok i (k : Nat) (by omega) (Int.lt_of_lt_of_le (show ((k : Nat) : Int) < 10 by omega) (by decide))
  obtain ⟨g, p1, e1, g0, g1, hp1⟩ := take_ok (n := 1000) (many := 4) (hp0.mono (by decide)) (by decide) (by decide)
  obtain ⟨c, ec, c1, c4⟩ : ∃ c : Nat, (1 : Int) + g = ((c : Nat) : Int) ∧ 1 ≤ c ∧ c ≤ 4 := ⟨(1 + g).toNat, by omega, by omega, by omega⟩
  obtain ⟨A, p2, e2, hA, lA, hp2⟩ := law_drawn_ok (n := 900) c1 c4 (hp1.mono (by decide))
  have vA := lv_drawn hA
  have vW := lv_whole hA lA
  have sW := sm_whole hA.sm lA
  have h5 : ∀ p ∈ A, p.1.length ≤ 5 := fun p hp => (vA.wd p hp).1
  have vG := grown_lv (m := 5) vA (by omega) (by decide)
  have vL := logged_lv (m := 5) vW (by omega) (by decide)
  have sG : Sm (grownT 5 A) := ((powers_good 5 A gShr).add [] 1).told
  have sL : Sm (loggedT 5 ([([], 1)] ++ A)) := (powers_good 5 _ lShr).told
  have er : restS ([([], 1)] ++ A) = A := by
    unfold restS
    show List.filter _ (([], 1) :: A) = A
    rw [List.filter_cons_of_neg (by simp)]
    exact List.filter_eq_self.mpr fun p hp => by simpa using lA p hp
  have cA : coef A [] = 0 := coef_not fun hm => by
    obtain ⟨p, hp, e⟩ := List.mem_map.mp hm
    exact lA p hp e
  have cW : coef ([([], 1)] ++ A) [] = 1 := by
    show coef (([], 1) :: A) [] = 1
    rw [coef_cons]
    rfl
  have cL : coef (loggedT 5 ([([], 1)] ++ A)) [] = 0 := by
    rw [← lin_ind sL.good.nd, lin_logged _ ind_lo, er]
    have e : mvS A (ind ([] : Wd)) = fun _ => 0 := funext fun u => lin_zero fun p hp => by
      unfold ind
      rw [if_neg]
      intro e
      exact lA p hp (List.append_eq_nil_iff.mp e).2
    show 0 * ind ([] : Wd) [] + polS A lShr (mvS A (ind ([] : Wd))) [] = 0
    rw [e, pol_zero lShr (f := fun _ => 0) (fun _ _ => rfl)]
    grind
  have gA := grown_fine c1 c4 vA hA.sm (by decide) cA
  have lW := logged_fine c1 c4 vW sW (by decide) cW
  have lG := logged_fine c1 c4 vG sG (by decide) (grown_one lA)
  have gL := grown_fine c1 c4 vL sL (by decide) cL
  have vLG := logged_lv (m := 5) vG (by omega) (by decide)
  have vGL := grown_lv (m := 5) vL (by omega) (by decide)
  rw [logged_grown hA.sm h5 lA fun p hp => (vLG.wd p hp).1] at lG
  rw [grown_logged sW h5 lA fun p hp => (vGL.wd p hp).1] at gL
  have d1 := law_grown_fine c4 vA (by decide)
  have d2 := law_logged_fine c4 vW (by decide)
  have sh1 := shw_looks c4 hA.bd hA.sz vG (cs := 1 :: gShr) rfl (by
    intro x hx
    rcases List.mem_cons.mp hx with e | hx
    · rw [e]; exact ⟨⟨120, rfl⟩, by decide⟩
    · exact gShr_ok x hx) fun f hf => lin_grown A hf
  have sh2 := shw_looks c4 hA.bd hA.sz vL (cs := 0 :: lShr) rfl (by
    intro x hx
    rcases List.mem_cons.mp hx with e | hx
    · rw [e]; exact bd_zero _ _
    · exact lShr_ok x hx) fun f hf => by rw [lin_logged _ hf, er]
  obtain ⟨t, st⟩ : ∃ t, strD [.lst [eSum.en (grownT 5 A), eSum.en (loggedT 5 ([([], 1)] ++ A))]] = some (.str t) := by
    refine shw_str (n := 5) ((shw_lst (n := 4) (k := 2000000) fun d hd => ?_).up (Nat.le_refl _) (by show 2 + 2 * (2000000 + 2) ≤ 8000000; decide)) (by decide) ⟨_, .inl rfl⟩
    simp only [List.mem_cons, List.not_mem_nil, or_false] at hd
    rcases hd with rfl | rfl
    · exact sh1
    · exact sh2
  have two : ∀ X Y : SumT, neD (.lst [eSum.en X, eSum.en Y]) (.lst [eSum.en X, eSum.en Y]) = some (.bl false) := fun X Y => ne_self (n := eSum.dp + 1) (cmp_lst fun d hd => by
    simp only [List.mem_cons, List.not_mem_nil, or_false] at hd
    rcases hd with rfl | rfl
    · exact cmp_enc eSum X
    · exact cmp_enc eSum Y) (by decide)
  have n1 := two A ([([], 1)] ++ A)
  have n2 := two (grownT 5 A) (loggedT 5 ([([], 1)] ++ A))
  have tA := tok_sum A
  have tW := tok_sum ([([], 1)] ++ A)
  have tG := tok_sum (grownT 5 A)
  have tL := tok_sum (loggedT 5 ([([], 1)] ++ A))
  have ad : addD (.lst [.tup [.tup [], .tup [.int 1, .int 1]]]) (eSum.en A) = some (eSum.en ([([], 1)] ++ A)) := addD_lst _ _ (by
    have := hA.sz
    rw [List.length_map]
    show 1 + A.length ≤ 1000
    omega)
  have li : ∀ X : SumT, listD [eSum.en X] = some (eSum.en X) := fun _ => rfl
  have l1 := li A
  have l2 := li ([([], 1)] ++ A)
  have hr : rangeD [.int 2] = some ((List.range 2).map fun k => .int (k : Nat)) := rangeD1 (j := 2) (by decide) (by decide)
  have eA : eSum.en A = .lst (A.map eTerm.en) := rfl
  have eW : eSum.en ([([], 1)] ++ A) = .lst (([([], 1)] ++ A : SumT).map eTerm.en) := rfl
  have eG : eSum.en (grownT 5 A) = .lst ((grownT 5 A).map eTerm.en) := rfl
  have eL : eSum.en (loggedT 5 ([([], 1)] ++ A)) = .lst ((loggedT 5 ([([], 1)] ++ A)).map eTerm.en) := rfl
  rw [eA] at e2 gA lG ad l1 d1 n1
  rw [eW] at lW gL ad l2 d2 n1
  rw [eG] at gA lG d1 st n2
  rw [eL] at lW gL d2 st n2
  clear sh1 sh2 vA vW vG vL vLG vGL sG sL sW hA h5 cA cW cL er eA eW eG eL two li
  generalize (loggedT 5 ([([], 1)] ++ A)).map eTerm.en = LX at *
  generalize (grownT 5 A).map eTerm.en = GX at *
  generalize ([([], 1)] ++ A : SumT).map eTerm.en = WX at *
  generalize A.map eTerm.en = AX at *
  obtain ⟨ρ', el, z8, z9, z10, z11, rfl⟩ := forL_fold (b := gName 8) (g := bTurn) (f := fun k : Nat => D.int (k : Nat)) (σ := Unit) (step := fun s _ => s) (St := fun _ ρ => ∃ z8 z9 z10 z11, ρ = [some (.scr ns), some (.int (k : Nat)), some p2, some (.int ((c : Nat) : Int)), some (.lst AX), some (.lst WX), some (.lst [.lst GX, .lst LX]), some (.lst [.lst AX, .lst WX]), z8, z9, z10, z11]) (List.range 2) () [some (.scr ns), some (.int (k : Nat)), some p2, some (.int ((c : Nat) : Int)), some (.lst AX), some (.lst WX), some (.lst [.lst GX, .lst LX]), some (.lst [.lst AX, .lst WX]), y8, y9, y10, y11] ⟨_, _, _, _, rfl⟩ (by
    rintro j - _ ρ ⟨z8, z9, z10, z11, rfl⟩
    exact ⟨_, _, rfl, turn_w gA lW lG gL tA tW tG tL st n1 n2 _ _ _ _, _, _, _, _, rfl⟩)
  refine ⟨some p2, some (.int ((c : Nat) : Int)), some (.lst AX), some (.lst WX), some (.lst [.lst GX, .lst LX]), some (.lst [.lst AX, .lst WX]), z8, z9, z10, z11, ?_⟩
  unfold bTurn at el
  generalize (List.range 2).map (fun k : Nat => D.int (k : Nat)) = RG at *
  simp (disch := first | assumption | decide | omega) only [bCell, runF, m0, sSeq, sSet, sIf, sRet, sRetN, sExpr, sSkip_ok, sSetA, sSetIx, sFor, sPar, sBind, sAug, eVar, eCon_ok, eOp2, eOp1, eCall, eCallM, eCallT, eTup, eLst, eArg, eIf, tVal, tNotF, tAndF, tOrF, eB, eAndF, eOrF, eNotF, eIxA, eIxO, eCatO, ixA_lst, ixA_tup, ixA_scr, eDNew, eDGet, eDGetO, eDPop, eSortK, eMM, aHoleQ, aHole, aNil_ok, aCons, oNone_ok, oSome, eSlice, eSliceL, iSeqA, iSeq, iRange, iArg, ePeek, tPeek, eOwnM, tYes_ok, bind_ok, bind_exc, bind_stuck, of_some, flatD, SW.gName, List.getD_cons_zero, List.getD_cons_succ, List.set_cons_zero, List.set_cons_succ, List.map_cons, List.map_nil, List.length_cons, List.length_nil, List.cons_append, List.nil_append, List.replicate, Nat.reduceAdd, Nat.reduceSub, addD_int, subD_int, negD_int, repD_int, modD_int, fdivD_int, ltA_int, leA_int, gtA_int, geA_int, eqD_int, neD_int, pow_10_18, pow_10_60, hi, e0, e1, ec, e2, ad, d1, d2, l1, l2, hr, el, Option.getD_some]
theorem law_true : ∀ ns : List Int, ns.length ≤ 63 → ∃ o, m_law [.scr ns] = .ok (.bl true, o) := by
  intro ns hns
  obtain ⟨n, hn, en⟩ : ∃ n : Nat, n ≤ 2 ∧ eOp2 addD (eCon (.int 1)) (eArg intD (aCons (eOp2 gtA (eArg lenA (aCons (eVar 0) aNil)) (eCon (.int 1))) aNil)) [some (.scr ns), none, none, none, none, none, none, none, none, none, none, none] = .ok (.int ((n : Nat) : Int), [some (.scr ns), none, none, none, none, none, none, none, none, none, none, none]) := by
    have el : lenA [.scr ns] = some (.int (ns.length : Nat)) := rfl
    have i1 : intD [.bl true] = some (.int 1) := rfl
    have i0 : intD [.bl false] = some (.int 0) := rfl
    by_cases z : ((ns.length : Nat) : Int) > 1
    · refine ⟨2, by decide, ?_⟩
      simp (disch := first | assumption | decide | omega) only [runF, m0, sSeq, sSet, sIf, sRet, sRetN, sExpr, sSkip_ok, sSetA, sSetIx, sFor, sPar, sBind, sAug, eVar, eCon_ok, eOp2, eOp1, eCall, eCallM, eCallT, eTup, eLst, eArg, eIf, tVal, tNotF, tAndF, tOrF, eB, eAndF, eOrF, eNotF, eIxA, eIxO, eCatO, ixA_lst, ixA_tup, ixA_scr, eDNew, eDGet, eDGetO, eDPop, eSortK, eMM, aHoleQ, aHole, aNil_ok, aCons, oNone_ok, oSome, eSlice, eSliceL, iSeqA, iSeq, iRange, iArg, ePeek, tPeek, eOwnM, tYes_ok, bind_ok, bind_exc, bind_stuck, of_some, flatD, SW.gName, List.getD_cons_zero, List.getD_cons_succ, List.set_cons_zero, List.set_cons_succ, List.map_cons, List.map_nil, List.length_cons, List.length_nil, List.cons_append, List.nil_append, List.replicate, Nat.reduceAdd, Nat.reduceSub, addD_int, subD_int, negD_int, repD_int, modD_int, fdivD_int, ltA_int, leA_int, gtA_int, geA_int, eqD_int, neD_int, pow_10_18, pow_10_60, el, decide_eq_true z, i1]
      rfl
    · refine ⟨1, by decide, ?_⟩
      simp (disch := first | assumption | decide | omega) only [runF, m0, sSeq, sSet, sIf, sRet, sRetN, sExpr, sSkip_ok, sSetA, sSetIx, sFor, sPar, sBind, sAug, eVar, eCon_ok, eOp2, eOp1, eCall, eCallM, eCallT, eTup, eLst, eArg, eIf, tVal, tNotF, tAndF, tOrF, eB, eAndF, eOrF, eNotF, eIxA, eIxO, eCatO, ixA_lst, ixA_tup, ixA_scr, eDNew, eDGet, eDGetO, eDPop, eSortK, eMM, aHoleQ, aHole, aNil_ok, aCons, oNone_ok, oSome, eSlice, eSliceL, iSeqA, iSeq, iRange, iArg, ePeek, tPeek, eOwnM, tYes_ok, bind_ok, bind_exc, bind_stuck, of_some, flatD, SW.gName, List.getD_cons_zero, List.getD_cons_succ, List.set_cons_zero, List.set_cons_succ, List.map_cons, List.map_nil, List.length_cons, List.length_nil, List.cons_append, List.nil_append, List.replicate, Nat.reduceAdd, Nat.reduceSub, addD_int, subD_int, negD_int, repD_int, modD_int, fdivD_int, ltA_int, leA_int, gtA_int, geA_int, eqD_int, neD_int, pow_10_18, pow_10_60, el, decide_eq_false z, i0]
      rfl
  have hr : rangeD [.int ((n : Nat) : Int)] = some ((List.range n).map fun k => .int (k : Nat)) := by
    rw [rangeD1 (by omega) (by omega), Int.toNat_natCast]
  obtain ⟨ρ', e, y1, y2, y3, y4, y5, y6, y7, y8, y9, y10, y11, rfl⟩ := forL_fold (b := gName 1) (g := bCell) (f := fun k : Nat => D.int (k : Nat)) (σ := Unit) (step := fun s _ => s) (St := fun _ ρ => ∃ y1 y2 y3 y4 y5 y6 y7 y8 y9 y10 y11, ρ = [some (.scr ns), y1, y2, y3, y4, y5, y6, y7, y8, y9, y10, y11]) (List.range n) () [some (.scr ns), none, none, none, none, none, none, none, none, none, none, none] ⟨_, _, _, _, _, _, _, _, _, _, _, rfl⟩ (by
    rintro j hj _ ρ ⟨y1, y2, y3, y4, y5, y6, y7, y8, y9, y10, y11, rfl⟩
    have := List.mem_range.mp hj
    obtain ⟨w2, w3, w4, w5, w6, w7, w8, w9, w10, w11, e⟩ := cell_ok ns j (by omega) y2 y3 y4 y5 y6 y7 y8 y9 y10 y11
    exact ⟨_, _, rfl, e, _, _, _, _, _, _, _, _, _, _, _, rfl⟩)
  refine ⟨.non, ?_⟩
  generalize (List.range n).map (fun k : Nat => D.int (k : Nat)) = MS at *
  have s1 : ((sFor (iRange (aCons (eOp2 addD (eCon (.int 1)) (eArg intD (aCons (eOp2 gtA (eArg lenA (aCons (eVar 0) aNil)) (eCon (.int 1))) aNil))) aNil)) (gName 1) (sSeq (sSet 2 (eCall m__law_purse (aCons (eCall m__law_at (aCons (eVar 0) (aCons (eVar 1) aNil))) (aCons (eVar 1) aNil)))) (sSeq (sSet 3 (eOp2 addD (eCon (.int 1)) (eCallM m__law_take 0 2 (aHoleQ 2 (aCons (eCon (.int 4)) aNil))))) (sSeq (sSet 4 (eCallM m__law_drawn 0 2 (aHoleQ 2 (aCons (eVar 3) aNil)))) (sSeq (sSet 5 (eOp2 addD (eLst (aCons (eTup (aCons (eTup aNil) (aCons (eTup (aCons (eCon (.int 1)) (aCons (eCon (.int 1)) aNil))) aNil))) aNil)) (eVar 4))) (sSeq (sSet 6 (eLst (aCons (eCall m__law_grown (aCons (eVar 4) aNil)) (aCons (eCall m__law_logged (aCons (eVar 5) aNil)) aNil)))) (sSeq (sSet 7 (eLst (aCons (eArg listD (aCons (eVar 4) aNil)) (aCons (eArg listD (aCons (eVar 5) aNil)) aNil)))) (sFor (iRange (aCons (eCon (.int 2)) aNil)) (gName 8) (sTree (sSeqT (tSetT [] [] 9 (eLst (aCons (eTrO (eCall m_grown (aCons (eVar 3) (aCons (eOp2 ixA (eVar 7) (eCon (.int 0))) aNil)))) (aCons (eTrO (eCall m_logged (aCons (eVar 3) (aCons (eOp2 ixA (eVar 7) (eCon (.int 1))) aNil)))) aNil)))) (sSeqT (sIf (tTest [] [] (tOrF (tVal (eOp2 neS (eArg strD (aCons (eVar 9) aNil)) (eArg strD (aCons (eVar 6) aNil)))) (tVal (eOp2 neD (eVar 7) (eLst (aCons (eVar 4) (aCons (eVar 5) aNil))))))) (tBase none [9] (sRet (eCon (.bl false)))) sSkip) (sSeqT (tSetT [] [] 10 (eLst (aCons (eTrO (eCall m_logged (aCons (eVar 3) (aCons (eOp2 ixA (eVar 9) (eCon (.int 0))) aNil)))) (aCons (eTrO (eCall m_grown (aCons (eVar 3) (aCons (eOp2 ixA (eVar 9) (eCon (.int 1))) aNil)))) aNil)))) (sSeqT (sIf (tTest [] [] (tOrF (tVal (eOp2 neD (eVar 10) (eLst (aCons (eVar 4) (aCons (eVar 5) aNil))))) (tVal (eOp2 neD (eVar 9) (eVar 6))))) (tBase none [10, 9] (sRet (eCon (.bl false)))) sSkip) (tForClear2 9 10 11))))))))))))))) [some (.scr ns), none, none, none, none, none, none, none, none, none, none, none] = .ok (.nx [some (.scr ns), y1, y2, y3, y4, y5, y6, y7, y8, y9, y10, y11]) := by
    have it : iRange (aCons (eOp2 addD (eCon (.int 1)) (eArg intD (aCons (eOp2 gtA (eArg lenA (aCons (eVar 0) aNil)) (eCon (.int 1))) aNil))) aNil) [some (.scr ns), none, none, none, none, none, none, none, none, none, none, none] = .ok (MS, [some (.scr ns), none, none, none, none, none, none, none, none, none, none, none]) := by
      generalize eOp2 addD (eCon (.int 1)) (eArg intD (aCons (eOp2 gtA (eArg lenA (aCons (eVar 0) aNil)) (eCon (.int 1))) aNil)) = F at en ⊢
      unfold iRange aCons
      rw [en]
      simp (disch := first | assumption | decide | omega) only [runF, m0, sSeq, sSet, sIf, sRet, sRetN, sExpr, sSkip_ok, sSetA, sSetIx, sFor, sPar, sBind, sAug, eVar, eCon_ok, eOp2, eOp1, eCall, eCallM, eCallT, eTup, eLst, eArg, eIf, tVal, tNotF, tAndF, tOrF, eB, eAndF, eOrF, eNotF, eIxA, eIxO, eCatO, ixA_lst, ixA_tup, ixA_scr, eDNew, eDGet, eDGetO, eDPop, eSortK, eMM, aHoleQ, aHole, aNil_ok, aCons, oNone_ok, oSome, eSlice, eSliceL, iSeqA, iSeq, iRange, iArg, ePeek, tPeek, eOwnM, tYes_ok, bind_ok, bind_exc, bind_stuck, of_some, flatD, SW.gName, List.getD_cons_zero, List.getD_cons_succ, List.set_cons_zero, List.set_cons_succ, List.map_cons, List.map_nil, List.length_cons, List.length_nil, List.cons_append, List.nil_append, List.replicate, Nat.reduceAdd, Nat.reduceSub, addD_int, subD_int, negD_int, repD_int, modD_int, fdivD_int, ltA_int, leA_int, gtA_int, geA_int, eqD_int, neD_int, pow_10_18, pow_10_60, hr]
    unfold sFor
    rw [it]
    exact e
  have s2 : ((sRet (eCon (.bl true)))) [some (.scr ns), y1, y2, y3, y4, y5, y6, y7, y8, y9, y10, y11] = .ok (.rt (.bl true) [some (.scr ns), y1, y2, y3, y4, y5, y6, y7, y8, y9, y10, y11]) := by
    simp (disch := first | assumption | decide | omega) only [runF, m0, sSeq, sSet, sIf, sRet, sRetN, sExpr, sSkip_ok, sSetA, sSetIx, sFor, sPar, sBind, sAug, eVar, eCon_ok, eOp2, eOp1, eCall, eCallM, eCallT, eTup, eLst, eArg, eIf, tVal, tNotF, tAndF, tOrF, eB, eAndF, eOrF, eNotF, eIxA, eIxO, eCatO, ixA_lst, ixA_tup, ixA_scr, eDNew, eDGet, eDGetO, eDPop, eSortK, eMM, aHoleQ, aHole, aNil_ok, aCons, oNone_ok, oSome, eSlice, eSliceL, iSeqA, iSeq, iRange, iArg, ePeek, tPeek, eOwnM, tYes_ok, bind_ok, bind_exc, bind_stuck, of_some, flatD, SW.gName, List.getD_cons_zero, List.getD_cons_succ, List.set_cons_zero, List.set_cons_succ, List.map_cons, List.map_nil, List.length_cons, List.length_nil, List.cons_append, List.nil_append, List.replicate, Nat.reduceAdd, Nat.reduceSub, addD_int, subD_int, negD_int, repD_int, modD_int, fdivD_int, ltA_int, leA_int, gtA_int, geA_int, eqD_int, neD_int, pow_10_18, pow_10_60]
  have all : b_law [some (.scr ns), none, none, none, none, none, none, none, none, none, none, none] = _ := (seq_nx s1).trans s2
  exact runF_rt (b := b_law) (ds := [.scr ns]) (n := 12) all

end Lw

set_option maxRecDepth 100000
set_option maxHeartbeats 0
namespace Lw
open PySem PySem.Spec PyProof.Rows L2 SW

theorem sc__law_mixed : FnScope nn__law_mixed ["_law_cell", "_law_k"] (defScope s__law_mixed) := ⟨rfl, rfl, rfl, by decide +kernel, rfl, by decide +kernel, by decide +kernel⟩

theorem sc__law_purse : FnScope nn__law_purse ["_law_cell", "_law_k"] (defScope s__law_purse) := ⟨rfl, rfl, rfl, by decide +kernel, rfl, by decide +kernel, by decide +kernel⟩

theorem sc__law_rank : FnScope nn__law_rank ["_law_word"] (defScope s__law_rank) := ⟨rfl, rfl, rfl, by decide +kernel, rfl, by decide +kernel, by decide +kernel⟩

theorem sc__law_told : FnScope nn__law_told ["_law_found"] (defScope s__law_told) := ⟨rfl, rfl, rfl, by decide +kernel, rfl, by decide +kernel, by decide +kernel⟩

theorem sc__law_take : FnScope nn__law_take ["_law_purse_here", "_law_many"] (defScope s__law_take) := ⟨rfl, rfl, rfl, by decide +kernel, rfl, by decide +kernel, by decide +kernel⟩

theorem sc__law_low : FnScope nn__law_low ["_law_top", "_law_bottom"] (defScope s__law_low) := ⟨rfl, rfl, rfl, by decide +kernel, rfl, by decide +kernel, by decide +kernel⟩

theorem sc__law_number : FnScope nn__law_number ["_law_purse_here"] (defScope s__law_number) := ⟨rfl, rfl, rfl, by decide +kernel, rfl, by decide +kernel, by decide +kernel⟩

theorem sc__law_drawn : FnScope nn__law_drawn ["_law_purse_here", "_law_count"] (defScope s__law_drawn) := ⟨rfl, rfl, rfl, by decide +kernel, rfl, by decide +kernel, by decide +kernel⟩

theorem sc__law_at : FnScope nn__law_at ["_law_script", "_law_k"] (defScope s__law_at) := ⟨rfl, rfl, rfl, by decide +kernel, rfl, by decide +kernel, by decide +kernel⟩

theorem sc__law_plus : FnScope nn__law_plus ["_law_one", "_law_other"] (defScope s__law_plus) := ⟨rfl, rfl, rfl, by decide +kernel, rfl, by decide +kernel, by decide +kernel⟩

theorem sc__law_put : FnScope nn__law_put ["_law_found", "_law_word", "_law_number_here"] (defScope s__law_put) := ⟨rfl, rfl, rfl, by decide +kernel, rfl, by decide +kernel, by decide +kernel⟩

theorem sc__law_by : FnScope nn__law_by ["_law_one", "_law_other"] (defScope s__law_by) := ⟨rfl, rfl, rfl, by decide +kernel, rfl, by decide +kernel, by decide +kernel⟩

theorem sc__law_joined : FnScope nn__law_joined ["_law_one", "_law_other"] (defScope s__law_joined) := ⟨rfl, rfl, rfl, by decide +kernel, rfl, by decide +kernel, by decide +kernel⟩

theorem sc__law_powers : FnScope nn__law_powers ["_law_total", "_law_shares"] (defScope s__law_powers) := ⟨rfl, rfl, rfl, by decide +kernel, rfl, by decide +kernel, by decide +kernel⟩

theorem sc__law_grown : FnScope nn__law_grown ["_law_total"] (defScope s__law_grown) := ⟨rfl, rfl, rfl, by decide +kernel, rfl, by decide +kernel, by decide +kernel⟩

theorem sc__law_logged : FnScope nn__law_logged ["_law_total"] (defScope s__law_logged) := ⟨rfl, rfl, rfl, by decide +kernel, rfl, by decide +kernel, by decide +kernel⟩

theorem sc_is_whole : FnScope nn_is_whole ["one"] (defScope s_is_whole) := ⟨rfl, rfl, rfl, by decide +kernel, rfl, by decide +kernel, by decide +kernel⟩

theorem sc_check_count : FnScope nn_check_count ["count"] (defScope s_check_count) := ⟨rfl, rfl, rfl, by decide +kernel, rfl, by decide +kernel, by decide +kernel⟩

theorem sc_is_word : FnScope nn_is_word ["word", "count"] (defScope s_is_word) := ⟨rfl, rfl, rfl, by decide +kernel, rfl, by decide +kernel, by decide +kernel⟩

theorem sc_divisor : FnScope nn_divisor ["one", "other"] (defScope s_divisor) := ⟨rfl, rfl, rfl, by decide +kernel, rfl, by decide +kernel, by decide +kernel⟩

theorem sc_is_number : FnScope nn_is_number ["one"] (defScope s_is_number) := ⟨rfl, rfl, rfl, by decide +kernel, rfl, by decide +kernel, by decide +kernel⟩

theorem sc_is_term : FnScope nn_is_term ["told", "count"] (defScope s_is_term) := ⟨rfl, rfl, rfl, by decide +kernel, rfl, by decide +kernel, by decide +kernel⟩

theorem sc_rank : FnScope nn_rank ["word"] (defScope s_rank) := ⟨rfl, rfl, rfl, by decide +kernel, rfl, by decide +kernel, by decide +kernel⟩

theorem sc_check_sum : FnScope nn_check_sum ["count", "total"] (defScope s_check_sum) := ⟨rfl, rfl, rfl, by decide +kernel, rfl, by decide +kernel, by decide +kernel⟩

theorem sc_told_sum : FnScope nn_told_sum ["numbers"] (defScope s_told_sum) := ⟨rfl, rfl, rfl, by decide +kernel, rfl, by decide +kernel, by decide +kernel⟩

theorem sc_lowest : FnScope nn_lowest ["top", "bottom"] (defScope s_lowest) := ⟨rfl, rfl, rfl, by decide +kernel, rfl, by decide +kernel, by decide +kernel⟩

theorem sc_plus : FnScope nn_plus ["one", "other"] (defScope s_plus) := ⟨rfl, rfl, rfl, by decide +kernel, rfl, by decide +kernel, by decide +kernel⟩

theorem sc_put_to : FnScope nn_put_to ["numbers", "word", "number"] (defScope s_put_to) := ⟨rfl, rfl, rfl, by decide +kernel, rfl, by decide +kernel, by decide +kernel⟩

theorem sc_times : FnScope nn_times ["one", "other"] (defScope s_times) := ⟨rfl, rfl, rfl, by decide +kernel, rfl, by decide +kernel, by decide +kernel⟩

theorem sc_joined_short : FnScope nn_joined_short ["one", "other", "most"] (defScope s_joined_short) := ⟨rfl, rfl, rfl, by decide +kernel, rfl, by decide +kernel, by decide +kernel⟩

theorem sc_added_up : FnScope nn_added_up ["total", "shares", "most"] (defScope s_added_up) := ⟨rfl, rfl, rfl, by decide +kernel, rfl, by decide +kernel, by decide +kernel⟩

theorem sc_fraction : FnScope nn_fraction ["top", "bottom"] (defScope s_fraction) := ⟨rfl, rfl, rfl, by decide +kernel, rfl, by decide +kernel, by decide +kernel⟩

theorem sc_grown_short : FnScope nn_grown_short ["total", "most"] (defScope s_grown_short) := ⟨rfl, rfl, rfl, by decide +kernel, rfl, by decide +kernel, by decide +kernel⟩

theorem sc_gathered : FnScope nn_gathered ["total"] (defScope s_gathered) := ⟨rfl, rfl, rfl, by decide +kernel, rfl, by decide +kernel, by decide +kernel⟩

theorem sc_grown : FnScope nn_grown ["count", "total"] (defScope s_grown) := ⟨rfl, rfl, rfl, by decide +kernel, rfl, by decide +kernel, by decide +kernel⟩

theorem sc_logged_short : FnScope nn_logged_short ["total", "most"] (defScope s_logged_short) := ⟨rfl, rfl, rfl, by decide +kernel, rfl, by decide +kernel, by decide +kernel⟩

theorem sc_logged : FnScope nn_logged ["count", "total"] (defScope s_logged) := ⟨rfl, rfl, rfl, by decide +kernel, rfl, by decide +kernel, by decide +kernel⟩

theorem sc_law : FnScope nn_law ["_law_script"] (defScope s_law) := ⟨rfl, rfl, rfl, by decide +kernel, rfl, by decide +kernel, by decide +kernel⟩

structure Txt (P : Program) (K : PySem.W.Frag) (mg : Str → Option Value) where
  seer : seerB K = true
  tree : P.given.tree = none

  a__law_mixed : Addr
  d__law_mixed : FuncData
  F__law_mixed : Fun K "_law_mixed" "_law_mixed" s__law_mixed a__law_mixed d__law_mixed
  g__law_mixed : mg "_law_mixed" = some (.ref a__law_mixed)
  k__law_mixed : PySem.W.keepIn K (.ref a__law_mixed) = true
  b__law_mixed : L2.Binds K d__law_mixed ["_law_cell", "_law_k"] []

  a__law_purse : Addr
  d__law_purse : FuncData
  F__law_purse : Fun K "_law_purse" "_law_purse" s__law_purse a__law_purse d__law_purse
  g__law_purse : mg "_law_purse" = some (.ref a__law_purse)
  k__law_purse : PySem.W.keepIn K (.ref a__law_purse) = true
  b__law_purse : L2.Binds K d__law_purse ["_law_cell", "_law_k"] []

  a__law_rank : Addr
  d__law_rank : FuncData
  F__law_rank : Fun K "_law_rank" "_law_rank" s__law_rank a__law_rank d__law_rank
  g__law_rank : mg "_law_rank" = some (.ref a__law_rank)
  k__law_rank : PySem.W.keepIn K (.ref a__law_rank) = true
  b__law_rank : L2.Binds K d__law_rank ["_law_word"] []

  a__law_told : Addr
  d__law_told : FuncData
  F__law_told : Fun K "_law_told" "_law_told" s__law_told a__law_told d__law_told
  g__law_told : mg "_law_told" = some (.ref a__law_told)
  k__law_told : PySem.W.keepIn K (.ref a__law_told) = true
  b__law_told : L2.Binds K d__law_told ["_law_found"] []

  a__law_take : Addr
  d__law_take : FuncData
  F__law_take : Fun K "_law_take" "_law_take" s__law_take a__law_take d__law_take
  g__law_take : mg "_law_take" = some (.ref a__law_take)
  k__law_take : PySem.W.keepIn K (.ref a__law_take) = true
  b__law_take : L2.Binds K d__law_take ["_law_purse_here", "_law_many"] []

  a__law_low : Addr
  d__law_low : FuncData
  F__law_low : Fun K "_law_low" "_law_low" s__law_low a__law_low d__law_low
  g__law_low : mg "_law_low" = some (.ref a__law_low)
  k__law_low : PySem.W.keepIn K (.ref a__law_low) = true
  b__law_low : L2.Binds K d__law_low ["_law_top", "_law_bottom"] []

  a__law_number : Addr
  d__law_number : FuncData
  F__law_number : Fun K "_law_number" "_law_number" s__law_number a__law_number d__law_number
  g__law_number : mg "_law_number" = some (.ref a__law_number)
  k__law_number : PySem.W.keepIn K (.ref a__law_number) = true
  b__law_number : L2.Binds K d__law_number ["_law_purse_here"] []

  a__law_drawn : Addr
  d__law_drawn : FuncData
  F__law_drawn : Fun K "_law_drawn" "_law_drawn" s__law_drawn a__law_drawn d__law_drawn
  g__law_drawn : mg "_law_drawn" = some (.ref a__law_drawn)
  k__law_drawn : PySem.W.keepIn K (.ref a__law_drawn) = true
  b__law_drawn : L2.Binds K d__law_drawn ["_law_purse_here", "_law_count"] []

  a__law_at : Addr
  d__law_at : FuncData
  F__law_at : Fun K "_law_at" "_law_at" s__law_at a__law_at d__law_at
  g__law_at : mg "_law_at" = some (.ref a__law_at)
  k__law_at : PySem.W.keepIn K (.ref a__law_at) = true
  b__law_at : L2.Binds K d__law_at ["_law_script", "_law_k"] []

  a__law_plus : Addr
  d__law_plus : FuncData
  F__law_plus : Fun K "_law_plus" "_law_plus" s__law_plus a__law_plus d__law_plus
  g__law_plus : mg "_law_plus" = some (.ref a__law_plus)
  k__law_plus : PySem.W.keepIn K (.ref a__law_plus) = true
  b__law_plus : L2.Binds K d__law_plus ["_law_one", "_law_other"] []

  a__law_put : Addr
  d__law_put : FuncData
  F__law_put : Fun K "_law_put" "_law_put" s__law_put a__law_put d__law_put
  g__law_put : mg "_law_put" = some (.ref a__law_put)
  k__law_put : PySem.W.keepIn K (.ref a__law_put) = true
  b__law_put : L2.Binds K d__law_put ["_law_found", "_law_word", "_law_number_here"] []

  a__law_by : Addr
  d__law_by : FuncData
  F__law_by : Fun K "_law_by" "_law_by" s__law_by a__law_by d__law_by
  g__law_by : mg "_law_by" = some (.ref a__law_by)
  k__law_by : PySem.W.keepIn K (.ref a__law_by) = true
  b__law_by : L2.Binds K d__law_by ["_law_one", "_law_other"] []

  a__law_joined : Addr
  d__law_joined : FuncData
  F__law_joined : Fun K "_law_joined" "_law_joined" s__law_joined a__law_joined d__law_joined
  g__law_joined : mg "_law_joined" = some (.ref a__law_joined)
  k__law_joined : PySem.W.keepIn K (.ref a__law_joined) = true
  b__law_joined : L2.Binds K d__law_joined ["_law_one", "_law_other"] []

  a__law_powers : Addr
  d__law_powers : FuncData
  F__law_powers : Fun K "_law_powers" "_law_powers" s__law_powers a__law_powers d__law_powers
  g__law_powers : mg "_law_powers" = some (.ref a__law_powers)
  k__law_powers : PySem.W.keepIn K (.ref a__law_powers) = true
  b__law_powers : L2.Binds K d__law_powers ["_law_total", "_law_shares"] []

  a__law_grown : Addr
  d__law_grown : FuncData
  F__law_grown : Fun K "_law_grown" "_law_grown" s__law_grown a__law_grown d__law_grown
  g__law_grown : mg "_law_grown" = some (.ref a__law_grown)
  k__law_grown : PySem.W.keepIn K (.ref a__law_grown) = true
  b__law_grown : L2.Binds K d__law_grown ["_law_total"] []

  a__law_logged : Addr
  d__law_logged : FuncData
  F__law_logged : Fun K "_law_logged" "_law_logged" s__law_logged a__law_logged d__law_logged
  g__law_logged : mg "_law_logged" = some (.ref a__law_logged)
  k__law_logged : PySem.W.keepIn K (.ref a__law_logged) = true
  b__law_logged : L2.Binds K d__law_logged ["_law_total"] []

  a_is_whole : Addr
  d_is_whole : FuncData
  F_is_whole : Fun K "is_whole" "is_whole" s_is_whole a_is_whole d_is_whole
  g_is_whole : mg "is_whole" = some (.ref a_is_whole)
  k_is_whole : PySem.W.keepIn K (.ref a_is_whole) = true
  b_is_whole : L2.Binds K d_is_whole ["one"] []

  a_check_count : Addr
  d_check_count : FuncData
  F_check_count : Fun K "check_count" "check_count" s_check_count a_check_count d_check_count
  g_check_count : mg "check_count" = some (.ref a_check_count)
  k_check_count : PySem.W.keepIn K (.ref a_check_count) = true
  b_check_count : L2.Binds K d_check_count ["count"] []

  a_is_word : Addr
  d_is_word : FuncData
  F_is_word : Fun K "is_word" "is_word" s_is_word a_is_word d_is_word
  g_is_word : mg "is_word" = some (.ref a_is_word)
  k_is_word : PySem.W.keepIn K (.ref a_is_word) = true
  b_is_word : L2.Binds K d_is_word ["word", "count"] []

  a_divisor : Addr
  d_divisor : FuncData
  F_divisor : Fun K "divisor" "divisor" s_divisor a_divisor d_divisor
  g_divisor : mg "divisor" = some (.ref a_divisor)
  k_divisor : PySem.W.keepIn K (.ref a_divisor) = true
  b_divisor : L2.Binds K d_divisor ["one", "other"] []

  a_is_number : Addr
  d_is_number : FuncData
  F_is_number : Fun K "is_number" "is_number" s_is_number a_is_number d_is_number
  g_is_number : mg "is_number" = some (.ref a_is_number)
  k_is_number : PySem.W.keepIn K (.ref a_is_number) = true
  b_is_number : L2.Binds K d_is_number ["one"] []

  a_is_term : Addr
  d_is_term : FuncData
  F_is_term : Fun K "is_term" "is_term" s_is_term a_is_term d_is_term
  g_is_term : mg "is_term" = some (.ref a_is_term)
  k_is_term : PySem.W.keepIn K (.ref a_is_term) = true
  b_is_term : L2.Binds K d_is_term ["told", "count"] []

  a_rank : Addr
  d_rank : FuncData
  F_rank : Fun K "rank" "rank" s_rank a_rank d_rank
  g_rank : mg "rank" = some (.ref a_rank)
  k_rank : PySem.W.keepIn K (.ref a_rank) = true
  b_rank : L2.Binds K d_rank ["word"] []

  a_check_sum : Addr
  d_check_sum : FuncData
  F_check_sum : Fun K "check_sum" "check_sum" s_check_sum a_check_sum d_check_sum
  g_check_sum : mg "check_sum" = some (.ref a_check_sum)
  k_check_sum : PySem.W.keepIn K (.ref a_check_sum) = true
  b_check_sum : L2.Binds K d_check_sum ["count", "total"] []

  a_told_sum : Addr
  d_told_sum : FuncData
  F_told_sum : Fun K "told_sum" "told_sum" s_told_sum a_told_sum d_told_sum
  g_told_sum : mg "told_sum" = some (.ref a_told_sum)
  k_told_sum : PySem.W.keepIn K (.ref a_told_sum) = true
  b_told_sum : L2.Binds K d_told_sum ["numbers"] []

  a_lowest : Addr
  d_lowest : FuncData
  F_lowest : Fun K "lowest" "lowest" s_lowest a_lowest d_lowest
  g_lowest : mg "lowest" = some (.ref a_lowest)
  k_lowest : PySem.W.keepIn K (.ref a_lowest) = true
  b_lowest : L2.Binds K d_lowest ["top", "bottom"] []

  a_plus : Addr
  d_plus : FuncData
  F_plus : Fun K "plus" "plus" s_plus a_plus d_plus
  g_plus : mg "plus" = some (.ref a_plus)
  k_plus : PySem.W.keepIn K (.ref a_plus) = true
  b_plus : L2.Binds K d_plus ["one", "other"] []

  a_put_to : Addr
  d_put_to : FuncData
  F_put_to : Fun K "put_to" "put_to" s_put_to a_put_to d_put_to
  g_put_to : mg "put_to" = some (.ref a_put_to)
  k_put_to : PySem.W.keepIn K (.ref a_put_to) = true
  b_put_to : L2.Binds K d_put_to ["numbers", "word", "number"] []

  a_times : Addr
  d_times : FuncData
  F_times : Fun K "times" "times" s_times a_times d_times
  g_times : mg "times" = some (.ref a_times)
  k_times : PySem.W.keepIn K (.ref a_times) = true
  b_times : L2.Binds K d_times ["one", "other"] []

  a_joined_short : Addr
  d_joined_short : FuncData
  F_joined_short : Fun K "joined_short" "joined_short" s_joined_short a_joined_short d_joined_short
  g_joined_short : mg "joined_short" = some (.ref a_joined_short)
  k_joined_short : PySem.W.keepIn K (.ref a_joined_short) = true
  b_joined_short : L2.Binds K d_joined_short ["one", "other", "most"] []

  a_added_up : Addr
  d_added_up : FuncData
  F_added_up : Fun K "added_up" "added_up" s_added_up a_added_up d_added_up
  g_added_up : mg "added_up" = some (.ref a_added_up)
  k_added_up : PySem.W.keepIn K (.ref a_added_up) = true
  b_added_up : L2.Binds K d_added_up ["total", "shares", "most"] []

  a_fraction : Addr
  d_fraction : FuncData
  F_fraction : Fun K "fraction" "fraction" s_fraction a_fraction d_fraction
  g_fraction : mg "fraction" = some (.ref a_fraction)
  k_fraction : PySem.W.keepIn K (.ref a_fraction) = true
  b_fraction : L2.Binds K d_fraction ["top", "bottom"] []

  a_grown_short : Addr
  d_grown_short : FuncData
  F_grown_short : Fun K "grown_short" "grown_short" s_grown_short a_grown_short d_grown_short
  g_grown_short : mg "grown_short" = some (.ref a_grown_short)
  k_grown_short : PySem.W.keepIn K (.ref a_grown_short) = true
  b_grown_short : L2.Binds K d_grown_short ["total", "most"] []

  a_gathered : Addr
  d_gathered : FuncData
  F_gathered : Fun K "gathered" "gathered" s_gathered a_gathered d_gathered
  g_gathered : mg "gathered" = some (.ref a_gathered)
  k_gathered : PySem.W.keepIn K (.ref a_gathered) = true
  b_gathered : L2.Binds K d_gathered ["total"] []

  a_grown : Addr
  d_grown : FuncData
  F_grown : Fun K "grown" "grown" s_grown a_grown d_grown
  g_grown : mg "grown" = some (.ref a_grown)
  k_grown : PySem.W.keepIn K (.ref a_grown) = true
  b_grown : L2.Binds K d_grown ["count", "total"] []

  a_logged_short : Addr
  d_logged_short : FuncData
  F_logged_short : Fun K "logged_short" "logged_short" s_logged_short a_logged_short d_logged_short
  g_logged_short : mg "logged_short" = some (.ref a_logged_short)
  k_logged_short : PySem.W.keepIn K (.ref a_logged_short) = true
  b_logged_short : L2.Binds K d_logged_short ["total", "most"] []

  a_logged : Addr
  d_logged : FuncData
  F_logged : Fun K "logged" "logged" s_logged a_logged d_logged
  g_logged : mg "logged" = some (.ref a_logged)
  k_logged : PySem.W.keepIn K (.ref a_logged) = true
  b_logged : L2.Binds K d_logged ["count", "total"] []

  a_law : Addr
  d_law : FuncData
  F_law : Fun K "law" "law" s_law a_law d_law
  g_law : mg "law" = some (.ref a_law)
  k_law : PySem.W.keepIn K (.ref a_law) = true
  b_law : L2.Binds K d_law ["_law_script"] []

  z_abs : mg "abs" = none

  z_bool : mg "bool" = none

  z_dict : mg "dict" = none

  z_enumerate : mg "enumerate" = none

  z_int : mg "int" = none

  z_isinstance : mg "isinstance" = none

  z_len : mg "len" = none

  z_list : mg "list" = none

  z_range : mg "range" = none

  z_sorted : mg "sorted" = none

  z_str : mg "str" = none

  z_tuple : mg "tuple" = none

  c_MOST : Konst K mg "MOST" k_MOST

  c_MOST_LETTERS : Konst K mg "MOST_LETTERS" k_MOST_LETTERS

  c_NOUGHT : Konst K mg "NOUGHT" k_NOUGHT

  c_ONE : Konst K mg "ONE" k_ONE

section
variable {P : Program} {w : World} {K : PySem.W.Frag} {mg : Str → Option Value} {base : Heap}

theorem ok__law_mixed (T : Txt P K mg) : FnOk P w K mg base (L2.CX P w) 34 T.a__law_mixed T.d__law_mixed ["_law_cell", "_law_k"] (spec K mg 2 none false m__law_mixed) := by
  refine @fn_by P w K mg base "_law_mixed" "_law_mixed" s__law_mixed T.a__law_mixed T.d__law_mixed nn__law_mixed ["_law_cell", "_law_k"] 33 2 none false b__law_mixed [false, false, false] [false, false, false] T.F__law_mixed sc__law_mixed rfl (fun _ => rfl) (os_ok rfl) rfl (.inl rfl) (fun cdv A outer s H E hr X eX tk hp => ?_)
  subst eX
  unfold b__law_mixed
  exact (vss_cons (vs_set 2 (ve_bin o_add (ve_bin o_add (ve_bin o_mul (ve_bin o_add (ve_bin o_mod (ve_var 0) (ve_bin o_add (ve_bin o_pow ve_int ve_int) ve_int)) (ve_bin o_mul ve_int (ve_var 1))) ve_int) (ve_bin o_mul ve_int (ve_var 1))) ve_int) sc__law_mixed.nd) (vss_cons (vs_set 2 (ve_bin o_mod (ve_bin o_mul (ve_var 2) (ve_var 2)) (ve_bin o_add (ve_bin o_pow ve_int ve_int) ve_int)) sc__law_mixed.nd) (vss_one (vs_ret (ve_bin o_mod (ve_bin o_mul (ve_bin o_add (ve_var 2) ve_int) (ve_bin o_add (ve_var 2) ve_int)) (ve_bin o_add (ve_bin o_pow ve_int ve_int) ve_int))))))

theorem ok__law_purse (T : Txt P K mg) : FnOk P w K mg base (L2.CX P w) 35 T.a__law_purse T.d__law_purse ["_law_cell", "_law_k"] (spec K mg 2 none true m__law_purse) := by
  refine @fn_by P w K mg base "_law_purse" "_law_purse" s__law_purse T.a__law_purse T.d__law_purse nn__law_purse ["_law_cell", "_law_k"] 34 2 none true b__law_purse [false, false] [false, false] T.F__law_purse sc__law_purse rfl (fun _ => rfl) (os_ok rfl) rfl (.inr (nn_seq nn_ret)) (fun cdv A outer s H E hr X eX tk hp => ?_)
  subst eX
  unfold b__law_purse
  exact (vss_cons (vs_if (vt_cmp (o_geA (hr.units)) (ve_var 0) (ve_bin o_pow ve_int ve_int)) (vss_one (vs_retO (ve_lstO (va_cons (ve_bin o_sub (ve_var 0) (ve_bin o_pow ve_int ve_int)) (va_cons ve_int (va_cons (ve_var 1) va_nil)))))) vss_nil) (vss_one (vs_retO (ve_lstO (va_cons (ve_call (ok__law_mixed T) tk (hr.mono (by decide)) T.g__law_mixed T.k__law_mixed T.b__law_mixed (va_cons (ve_var 0) (va_cons (ve_var 1) va_nil))) (va_cons ve_int (va_cons (ve_bin o_add (ve_bin o_mod (ve_var 0) (ve_bin o_add (ve_bin o_pow ve_int ve_int) ve_int)) (ve_var 1)) va_nil)))))))

theorem ok__law_rank (T : Txt P K mg) : FnOk P w K mg base (L2.CX P w) 34 T.a__law_rank T.d__law_rank ["_law_word"] (spec K mg 1 none false m__law_rank) := by
  refine @fn_by P w K mg base "_law_rank" "_law_rank" s__law_rank T.a__law_rank T.d__law_rank nn__law_rank ["_law_word"] 33 1 none false b__law_rank [false] [false] T.F__law_rank sc__law_rank rfl (fun _ => rfl) (os_ok rfl) rfl (.inl rfl) (fun cdv A outer s H E hr X eX tk hp => ?_)
  subst eX
  unfold b__law_rank
  exact (vss_one (vs_ret (ve_tup (va_cons (ve_callB c_lenA (va_cons (ve_var 0) va_nil) T.z_len bt_len) (va_cons (ve_var 0) va_nil)))))

theorem ok__law_told (T : Txt P K mg) : FnOk P w K mg base (L2.CX P w) 37 T.a__law_told T.d__law_told ["_law_found"] (spec K mg 1 none true m__law_told) := by
  refine @fn_by P w K mg base "_law_told" "_law_told" s__law_told T.a__law_told T.d__law_told nn__law_told ["_law_found"] 36 1 none true b__law_told [false, false] [false, false] T.F__law_told sc__law_told rfl (fun _ => rfl) (os_ok rfl) rfl (.inr nn_ret) (fun cdv A outer s H E hr X eX tk hp => ?_)
  subst eX
  unfold b__law_told
  exact (vss_one (vs_retO (ve_lc (own := [("_law_word", 1)]) (blkOk_by (N := nn__law_told) (sc := defScope s__law_told) (by decide +kernel)) (vi_seqA (VE.fz (ve_sortK (ok__law_rank T) (hr.mono (by decide)) T.g__law_rank T.b__law_rank (ve_var 0) T.z_sorted))) (fun _ _ _ _ _ => (vg_name 1 sc__law_told.nd)) (fun _ _ _ _ _ => vts_nil) (fun _ _ _ _ _ => (ve_tup (va_cons (ve_var 1) (va_cons (ve_ixA (hr.units) (ve_var 0) (ve_var 1)) va_nil)))) sc__law_told.nd)))

theorem ok__law_take (T : Txt P K mg) : FnOk P w K mg base (L2.CX P w) 35 T.a__law_take T.d__law_take ["_law_purse_here", "_law_many"] (spec K mg 2 (some 0) false m__law_take) := by
  refine @fn_by P w K mg base "_law_take" "_law_take" s__law_take T.a__law_take T.d__law_take nn__law_take ["_law_purse_here", "_law_many"] 34 2 (some 0) false b__law_take [true, false, false] [true, false, false] T.F__law_take sc__law_take rfl (fun _ => rfl) (os_ok rfl) rfl (.inl rfl) (fun cdv A outer s H E hr X eX tk hp => ?_)
  subst eX
  unfold b__law_take
  exact (vss_cons (vs_if (vt_peek (vt_cmp (o_ltA (hr.units)) (ve_ixA (hr.units) (ve_var 0) ve_int) (ve_var 1))) (vss_cons (vs_setA (hr.units) 0 (ve_bin o_add (ve_ixAO (hr.units) 0 ve_int) ve_int) ve_int) (vss_one (vs_setA (hr.units) 0 (ve_bin o_add (ve_ixAO (hr.units) 0 ve_int) (ve_bin o_mul (ve_var 1) (ve_call (ok__law_mixed T) tk (hr.mono (by decide)) T.g__law_mixed T.k__law_mixed T.b__law_mixed (va_cons (ve_ixAO (hr.units) 0 ve_int) (va_cons (ve_bin o_add (ve_bin o_mul ve_int (ve_ixAO (hr.units) 0 ve_int)) ve_int) va_nil))))) ve_int))) vss_nil) (vss_cons (vs_set 2 (ve_bin o_mod (ve_ixAO (hr.units) 0 ve_int) (ve_var 1)) sc__law_take.nd) (vss_cons (vs_setA (hr.units) 0 (ve_bin (o_fdiv (Dv.mk T.seer T.tree (dv_room hr (by decide)) ⟨_, _, rfl, sc__law_take.gen, sc__law_take.co, rfl, rfl⟩)) (ve_ixAO (hr.units) 0 ve_int) (ve_var 1)) ve_int) (vss_one (vs_ret (ve_var 2))))))

theorem ok__law_low (T : Txt P K mg) : FnOk P w K mg base (L2.CX P w) 34 T.a__law_low T.d__law_low ["_law_top", "_law_bottom"] (spec K mg 2 none false m__law_low) := by
  refine @fn_by P w K mg base "_law_low" "_law_low" s__law_low T.a__law_low T.d__law_low nn__law_low ["_law_top", "_law_bottom"] 33 2 none false b__law_low [false, false, false, false] [false, false, false, false] T.F__law_low sc__law_low rfl (fun _ => rfl) (os_ok rfl) rfl (.inl rfl) (fun cdv A outer s H E hr X eX tk hp => ?_)
  subst eX
  unfold b__law_low
  exact (vss_cons (vs_set 2 (ve_callB c_abs (va_cons (ve_var 0) va_nil) T.z_abs bt_abs) sc__law_low.nd) (vss_cons (vs_set 3 (ve_var 1) sc__law_low.nd) (vss_cons (vs_while (fuel := (fuelInt 3)) hp (vt_cmp (o_ne (hr.units)) (ve_var 3) ve_int) (vss_one (vs_par 2 3 (va_cons (ve_var 3) (va_cons (ve_bin o_mod (ve_var 2) (ve_var 3)) va_nil)) sc__law_low.nd))) (vss_one (vs_ret (ve_tup (va_cons (ve_bin (o_fdiv (Dv.mk T.seer T.tree (dv_room hr (by decide)) ⟨_, _, rfl, sc__law_low.gen, sc__law_low.co, rfl, rfl⟩)) (ve_var 0) (ve_var 2)) (va_cons (ve_bin (o_fdiv (Dv.mk T.seer T.tree (dv_room hr (by decide)) ⟨_, _, rfl, sc__law_low.gen, sc__law_low.co, rfl, rfl⟩)) (ve_var 1) (ve_var 2)) va_nil))))))))

theorem ok__law_number (T : Txt P K mg) : FnOk P w K mg base (L2.CX P w) 36 T.a__law_number T.d__law_number ["_law_purse_here"] (spec K mg 1 (some 0) false m__law_number) := by
  refine @fn_by P w K mg base "_law_number" "_law_number" s__law_number T.a__law_number T.d__law_number nn__law_number ["_law_purse_here"] 35 1 (some 0) false b__law_number [true, false] [true, false] T.F__law_number sc__law_number rfl (fun _ => rfl) (os_ok rfl) rfl (.inl rfl) (fun cdv A outer s H E hr X eX tk hp => ?_)
  subst eX
  unfold b__law_number
  exact (vss_cons (vs_set 1 (ve_callM (ok__law_take T) tk (hr.mono (by decide)) T.g__law_take T.k__law_take T.b__law_take (vb_here 0 (va_cons ve_int va_nil))) sc__law_number.nd) (vss_cons (vs_if (vt_cmp (o_ltA (hr.units)) (ve_var 1) ve_int) (vss_one (vs_ret (ve_ixA (hr.units) (VE.fz (ve_lstO (va_cons (ve_tup (va_cons ve_int (va_cons ve_int va_nil))) (va_cons (ve_tup (va_cons ve_int (va_cons ve_int va_nil))) (va_cons (ve_tup (va_cons (ve_un o_neg ve_int) (va_cons ve_int va_nil))) va_nil))))) (ve_var 1)))) vss_nil) (vss_cons (vs_if (vt_cmp (o_eq (hr.units)) (ve_var 1) ve_int) (vss_one (vs_ret (ve_tup (va_cons (ve_bin o_sub (ve_callM (ok__law_take T) tk (hr.mono (by decide)) T.g__law_take T.k__law_take T.b__law_take (vb_here 0 (va_cons ve_int va_nil))) ve_int) (va_cons ve_int va_nil))))) vss_nil) (vss_one (vs_ret (ve_call (ok__law_low T) tk (hr.mono (by decide)) T.g__law_low T.k__law_low T.b__law_low (va_cons (ve_bin o_sub (ve_callM (ok__law_take T) tk (hr.mono (by decide)) T.g__law_take T.k__law_take T.b__law_take (vb_here 0 (va_cons (ve_bin o_add (ve_bin o_mul ve_int (ve_bin o_pow ve_int ve_int)) ve_int) va_nil))) (ve_bin o_pow ve_int ve_int)) (va_cons (ve_bin o_add ve_int (ve_callM (ok__law_take T) tk (hr.mono (by decide)) T.g__law_take T.k__law_take T.b__law_take (vb_here 0 (va_cons ve_int va_nil)))) va_nil))))))))

theorem ok__law_drawn (T : Txt P K mg) : FnOk P w K mg base (L2.CX P w) 38 T.a__law_drawn T.d__law_drawn ["_law_purse_here", "_law_count"] (spec K mg 2 (some 0) true m__law_drawn) := by
  refine @fn_by P w K mg base "_law_drawn" "_law_drawn" s__law_drawn T.a__law_drawn T.d__law_drawn nn__law_drawn ["_law_purse_here", "_law_count"] 37 2 (some 0) true b__law_drawn [true, false, false, false, false, false, false, false] [true, false, false, false, false, false, false, false] T.F__law_drawn sc__law_drawn rfl (fun _ => rfl) (os_ok rfl) rfl (.inr (nn_seq (nn_seq (nn_seq nn_ret)))) (fun cdv A outer s H E hr X eX tk hp => ?_)
  subst eX
  unfold b__law_drawn
  exact (vss_cons (vs_setO 2 ve_dnew sc__law_drawn.nd) (vss_cons (vs_set 3 (ve_bin o_add ve_int (ve_callM (ok__law_take T) tk (hr.mono (by decide)) T.g__law_take T.k__law_take T.b__law_take (vb_here 0 (va_cons ve_int va_nil)))) sc__law_drawn.nd) (vss_cons (vs_for hp (vi_range1 (va_cons (ve_callM (ok__law_take T) tk (hr.mono (by decide)) T.g__law_take T.k__law_take T.b__law_take (vb_here 0 (va_cons ve_int va_nil))) va_nil) T.z_range) (vg_name 4 sc__law_drawn.nd) (vss_cons (vs_set 5 (ve_callTy c_tuple (va_cons (VE.fz (ve_lc (own := [("_law_place", 7)]) (blkOk_by (N := nn__law_drawn) (sc := defScope s__law_drawn) (by decide +kernel)) (vi_range1 (va_cons (ve_bin o_add ve_int (ve_callM (ok__law_take T) tk (hr.mono (by decide)) T.g__law_take T.k__law_take T.b__law_take (vb_here 0 (va_cons (ve_var 3) va_nil)))) va_nil) T.z_range) (fun _ _ _ _ _ => (vg_name 7 sc__law_drawn.nd)) (fun _ _ _ _ _ => vts_nil) (fun _ _ _ _ _ => (ve_callM (ok__law_take T) takes0 (hr.mono (by decide)) T.g__law_take T.k__law_take T.b__law_take (vb_here 0 (va_cons (ve_var 1) va_nil)))) sc__law_drawn.nd)) va_nil) T.z_tuple bt_tuple) sc__law_drawn.nd) (vss_cons (vs_set 6 (ve_callM (ok__law_number T) tk (hr.mono (by decide)) T.g__law_number T.k__law_number T.b__law_number (vb_here 0 va_nil)) sc__law_drawn.nd) (vss_one (vs_if (vt_cmp (o_ne (hr.units)) (ve_ixA (hr.units) (ve_var 6) ve_int) ve_int) (vss_one (vs_setA (hr.units) 2 (ve_var 6) (ve_var 5))) vss_nil))))) (vss_one (vs_retO (ve_peekL (ve_call (ok__law_told T) tk (hr.mono (by decide)) T.g__law_told T.k__law_told T.b__law_told (va_cons (ve_var 2) va_nil))))))))

theorem ok__law_at (T : Txt P K mg) : FnOk P w K mg base (L2.CX P w) 34 T.a__law_at T.d__law_at ["_law_script", "_law_k"] (spec K mg 2 none false m__law_at) := by
  refine @fn_by P w K mg base "_law_at" "_law_at" s__law_at T.a__law_at T.d__law_at nn__law_at ["_law_script", "_law_k"] 33 2 none false b__law_at [false, false] [false, false] T.F__law_at sc__law_at rfl (fun _ => rfl) (os_ok rfl) rfl (.inl rfl) (fun cdv A outer s H E hr X eX tk hp => ?_)
  subst eX
  unfold b__law_at
  exact (vss_cons (vs_if (vt_cmp (o_ltA (hr.units)) (ve_var 1) (ve_callB c_lenA (va_cons (ve_var 0) va_nil) T.z_len bt_len)) (vss_one (vs_ret (ve_ixA (hr.units) (ve_var 0) (ve_var 1)))) vss_nil) (vss_one (vs_ret (ve_bin o_add (ve_bin o_mul ve_int (ve_var 1)) ve_int))))

theorem ok__law_plus (T : Txt P K mg) : FnOk P w K mg base (L2.CX P w) 35 T.a__law_plus T.d__law_plus ["_law_one", "_law_other"] (spec K mg 2 none false m__law_plus) := by
  refine @fn_by P w K mg base "_law_plus" "_law_plus" s__law_plus T.a__law_plus T.d__law_plus nn__law_plus ["_law_one", "_law_other"] 34 2 none false b__law_plus [false, false] [false, false] T.F__law_plus sc__law_plus rfl (fun _ => rfl) (os_ok rfl) rfl (.inl rfl) (fun cdv A outer s H E hr X eX tk hp => ?_)
  subst eX
  unfold b__law_plus
  exact (vss_one (vs_ret (ve_call (ok__law_low T) tk (hr.mono (by decide)) T.g__law_low T.k__law_low T.b__law_low (va_cons (ve_bin o_add (ve_bin o_mul (ve_ixA (hr.units) (ve_var 0) ve_int) (ve_ixA (hr.units) (ve_var 1) ve_int)) (ve_bin o_mul (ve_ixA (hr.units) (ve_var 1) ve_int) (ve_ixA (hr.units) (ve_var 0) ve_int))) (va_cons (ve_bin o_mul (ve_ixA (hr.units) (ve_var 0) ve_int) (ve_ixA (hr.units) (ve_var 1) ve_int)) va_nil)))))

theorem ok__law_put (T : Txt P K mg) : FnOk P w K mg base (L2.CX P w) 36 T.a__law_put T.d__law_put ["_law_found", "_law_word", "_law_number_here"] (spec K mg 3 (some 0) false m__law_put) := by
  refine @fn_by P w K mg base "_law_put" "_law_put" s__law_put T.a__law_put T.d__law_put nn__law_put ["_law_found", "_law_word", "_law_number_here"] 35 3 (some 0) false b__law_put [true, false, false] [true, false, false] T.F__law_put sc__law_put rfl (fun _ => rfl) (os_ok rfl) rfl (.inl rfl) (fun cdv A outer s H E hr X eX tk hp => ?_)
  subst eX
  unfold b__law_put
  exact (vss_cons (vs_setA (hr.units) 0 (ve_call (ok__law_plus T) tk (hr.mono (by decide)) T.g__law_plus T.k__law_plus T.b__law_plus (va_cons (ve_dgetO (hr.units) 0 (ve_var 1) (ve_tup (va_cons ve_int (va_cons ve_int va_nil)))) (va_cons (ve_var 2) va_nil))) (ve_var 1)) (vss_one (vs_if (vt_peek (vt_cmp (o_eq (hr.units)) (ve_ixA (hr.units) (ve_ixA (hr.units) (ve_var 0) (ve_var 1)) ve_int) ve_int)) (vss_one (vs_expr (ve_dpop (hr.units) 0 (ve_var 1)))) vss_nil)))

theorem ok__law_by (T : Txt P K mg) : FnOk P w K mg base (L2.CX P w) 35 T.a__law_by T.d__law_by ["_law_one", "_law_other"] (spec K mg 2 none false m__law_by) := by
  refine @fn_by P w K mg base "_law_by" "_law_by" s__law_by T.a__law_by T.d__law_by nn__law_by ["_law_one", "_law_other"] 34 2 none false b__law_by [false, false] [false, false] T.F__law_by sc__law_by rfl (fun _ => rfl) (os_ok rfl) rfl (.inl rfl) (fun cdv A outer s H E hr X eX tk hp => ?_)
  subst eX
  unfold b__law_by
  exact (vss_one (vs_ret (ve_call (ok__law_low T) tk (hr.mono (by decide)) T.g__law_low T.k__law_low T.b__law_low (va_cons (ve_bin o_mul (ve_ixA (hr.units) (ve_var 0) ve_int) (ve_ixA (hr.units) (ve_var 1) ve_int)) (va_cons (ve_bin o_mul (ve_ixA (hr.units) (ve_var 0) ve_int) (ve_ixA (hr.units) (ve_var 1) ve_int)) va_nil)))))

theorem ok__law_joined (T : Txt P K mg) : FnOk P w K mg base (L2.CX P w) 38 T.a__law_joined T.d__law_joined ["_law_one", "_law_other"] (spec K mg 2 none true m__law_joined) := by
  refine @fn_by P w K mg base "_law_joined" "_law_joined" s__law_joined T.a__law_joined T.d__law_joined nn__law_joined ["_law_one", "_law_other"] 37 2 none true b__law_joined [false, false, false, false, false, false, false] [false, false, false, false, false, false, false] T.F__law_joined sc__law_joined rfl (fun _ => rfl) (os_ok rfl) rfl (.inr (nn_seq (nn_seq nn_ret))) (fun cdv A outer s H E hr X eX tk hp => ?_)
  subst eX
  unfold b__law_joined
  exact (vss_cons (vs_setO 2 ve_dnew sc__law_joined.nd) (vss_cons (vs_for hp (vi_seqA (ve_var 0)) (vg_tup (vgs_cons (vg_name 3 sc__law_joined.nd) (vgs_cons (vg_name 4 sc__law_joined.nd) vgs_nil))) (vss_one (vs_for hp (vi_seqA (ve_var 1)) (vg_tup (vgs_cons (vg_name 5 sc__law_joined.nd) (vgs_cons (vg_name 6 sc__law_joined.nd) vgs_nil))) (vss_one (vs_if (vt_cmp (o_ltA (hr.units)) (ve_bin o_add (ve_callB c_lenA (va_cons (ve_var 3) va_nil) T.z_len bt_len) (ve_callB c_lenA (va_cons (ve_var 5) va_nil) T.z_len bt_len)) ve_int) (vss_one (vs_expr (ve_callM (ok__law_put T) tk (hr.mono (by decide)) T.g__law_put T.k__law_put T.b__law_put (vb_here 2 (va_cons (ve_bin o_add (ve_var 3) (ve_var 5)) (va_cons (ve_call (ok__law_by T) tk (hr.mono (by decide)) T.g__law_by T.k__law_by T.b__law_by (va_cons (ve_var 4) (va_cons (ve_var 6) va_nil))) va_nil)))))) vss_nil))))) (vss_one (vs_retO (ve_peekL (ve_call (ok__law_told T) tk (hr.mono (by decide)) T.g__law_told T.k__law_told T.b__law_told (va_cons (ve_var 2) va_nil)))))))

theorem ok__law_powers (T : Txt P K mg) : FnOk P w K mg base (L2.CX P w) 39 T.a__law_powers T.d__law_powers ["_law_total", "_law_shares"] (spec K mg 2 none true m__law_powers) := by
  refine @fn_by P w K mg base "_law_powers" "_law_powers" s__law_powers T.a__law_powers T.d__law_powers nn__law_powers ["_law_total", "_law_shares"] 38 2 none true b__law_powers [false, false, false, false, false, false, false] [false, false, false, false, false, false, false] T.F__law_powers sc__law_powers rfl (fun _ => rfl) (os_ok rfl) rfl (.inr (nn_seq (nn_seq (nn_seq nn_ret)))) (fun cdv A outer s H E hr X eX tk hp => ?_)
  subst eX
  unfold b__law_powers
  exact (vss_cons (vs_setO 2 ve_dnew sc__law_powers.nd) (vss_cons (vs_set 3 (VE.fz (ve_lstO (va_cons (ve_tup (va_cons (ve_tup va_nil) (va_cons (ve_tup (va_cons ve_int (va_cons ve_int va_nil))) va_nil))) va_nil))) sc__law_powers.nd) (vss_cons (vs_for hp (vi_seqA (ve_var 1)) (vg_name 4 sc__law_powers.nd) (vss_cons (vs_set 3 (VE.fz (ve_call (ok__law_joined T) tk (hr.mono (by decide)) T.g__law_joined T.k__law_joined T.b__law_joined (va_cons (ve_var 3) (va_cons (ve_var 0) va_nil)))) sc__law_powers.nd) (vss_one (vs_for hp (vi_seqA (ve_var 3)) (vg_tup (vgs_cons (vg_name 5 sc__law_powers.nd) (vgs_cons (vg_name 6 sc__law_powers.nd) vgs_nil))) (vss_one (vs_expr (ve_callM (ok__law_put T) tk (hr.mono (by decide)) T.g__law_put T.k__law_put T.b__law_put (vb_here 2 (va_cons (ve_var 5) (va_cons (ve_call (ok__law_by T) tk (hr.mono (by decide)) T.g__law_by T.k__law_by T.b__law_by (va_cons (ve_var 6) (va_cons (ve_var 4) va_nil))) va_nil)))))))))) (vss_one (vs_retV 2)))))

theorem ok__law_grown (T : Txt P K mg) : FnOk P w K mg base (L2.CX P w) 40 T.a__law_grown T.d__law_grown ["_law_total"] (spec K mg 1 none true m__law_grown) := by
  refine @fn_by P w K mg base "_law_grown" "_law_grown" s__law_grown T.a__law_grown T.d__law_grown nn__law_grown ["_law_total"] 39 1 none true b__law_grown [false, false] [false, false] T.F__law_grown sc__law_grown rfl (fun _ => rfl) (os_ok rfl) rfl (.inr (nn_seq (nn_seq nn_ret))) (fun cdv A outer s H E hr X eX tk hp => ?_)
  subst eX
  unfold b__law_grown
  exact (vss_cons (vs_setO 1 (ve_call (ok__law_powers T) tk (hr.mono (by decide)) T.g__law_powers T.k__law_powers T.b__law_powers (va_cons (ve_var 0) (va_cons (VE.fz (ve_lstO (va_cons (ve_tup (va_cons ve_int (va_cons ve_int va_nil))) (va_cons (ve_tup (va_cons ve_int (va_cons ve_int va_nil))) (va_cons (ve_tup (va_cons ve_int (va_cons ve_int va_nil))) (va_cons (ve_tup (va_cons ve_int (va_cons ve_int va_nil))) (va_cons (ve_tup (va_cons ve_int (va_cons ve_int va_nil))) va_nil))))))) va_nil))) sc__law_grown.nd) (vss_cons (vs_expr (ve_callM (ok__law_put T) tk (hr.mono (by decide)) T.g__law_put T.k__law_put T.b__law_put (vb_here 1 (va_cons (ve_tup va_nil) (va_cons (ve_tup (va_cons ve_int (va_cons ve_int va_nil))) va_nil))))) (vss_one (vs_retO (ve_peekL (ve_call (ok__law_told T) tk (hr.mono (by decide)) T.g__law_told T.k__law_told T.b__law_told (va_cons (ve_var 1) va_nil)))))))

theorem ok__law_logged (T : Txt P K mg) : FnOk P w K mg base (L2.CX P w) 40 T.a__law_logged T.d__law_logged ["_law_total"] (spec K mg 1 none true m__law_logged) := by
  refine @fn_by P w K mg base "_law_logged" "_law_logged" s__law_logged T.a__law_logged T.d__law_logged nn__law_logged ["_law_total"] 39 1 none true b__law_logged [false, false, false, false] [false, false, false, false] T.F__law_logged sc__law_logged rfl (fun _ => rfl) (os_ok rfl) rfl (.inr (nn_seq nn_ret)) (fun cdv A outer s H E hr X eX tk hp => ?_)
  subst eX
  unfold b__law_logged
  exact (vss_cons (VS.fz 1 (vs_setLc 1 (own := [("_law_word", 2), ("_law_number_here", 3)]) (blkOk_by (N := nn__law_logged) (sc := defScope s__law_logged) (by decide +kernel)) (vi_seqA (ve_var 0)) (fun _ _ _ _ _ => (vg_tup (vgs_cons (vg_name 2 sc__law_logged.nd) (vgs_cons (vg_name 3 sc__law_logged.nd) vgs_nil)))) (fun _ _ _ _ _ => (vts_one (vt_cmp (o_ne (hr.units)) (ve_var 2) (ve_tup va_nil)))) (fun _ _ _ _ _ => (ve_tup (va_cons (ve_var 2) (va_cons (ve_var 3) va_nil)))) sc__law_logged.nd (by rfl))) (vss_one (vs_retO (ve_call (ok__law_told T) tk (hr.mono (by decide)) T.g__law_told T.k__law_told T.b__law_told (va_cons (VE.fz (ve_call (ok__law_powers T) tk (hr.mono (by decide)) T.g__law_powers T.k__law_powers T.b__law_powers (va_cons (ve_var 1) (va_cons (VE.fz (ve_lstO (va_cons (ve_tup (va_cons ve_int (va_cons ve_int va_nil))) (va_cons (ve_tup (va_cons (ve_un o_neg ve_int) (va_cons ve_int va_nil))) (va_cons (ve_tup (va_cons ve_int (va_cons ve_int va_nil))) (va_cons (ve_tup (va_cons (ve_un o_neg ve_int) (va_cons ve_int va_nil))) (va_cons (ve_tup (va_cons ve_int (va_cons ve_int va_nil))) va_nil))))))) va_nil)))) va_nil)))))

theorem ok_is_whole (T : Txt P K mg) : FnOk P w K mg base (L2.CX P w) 34 T.a_is_whole T.d_is_whole ["one"] (spec K mg 1 none false m_is_whole) := by
  refine @fn_by P w K mg base "is_whole" "is_whole" s_is_whole T.a_is_whole T.d_is_whole nn_is_whole ["one"] 33 1 none false b_is_whole [false] [false] T.F_is_whole sc_is_whole rfl (fun _ => rfl) (os_ok rfl) rfl (.inl rfl) (fun cdv A outer s H E hr X eX tk hp => ?_)
  subst eX
  unfold b_is_whole
  exact (vss_one (vs_ret (ve_and (ve_callB c_isi (va_cons (ve_var 0) (va_cons (ve_ty (T := .int) T.z_int bt_int) va_nil)) T.z_isinstance bt_isinstance) (ve_one (ve_not (ve_callB c_isi (va_cons (ve_var 0) (va_cons (ve_ty (T := .bool) T.z_bool bt_bool) va_nil)) T.z_isinstance bt_isinstance))))))

theorem ok_check_count (T : Txt P K mg) : FnOk P w K mg base (L2.CX P w) 35 T.a_check_count T.d_check_count ["count"] (spec K mg 1 none false m_check_count) := by
  refine @fn_by P w K mg base "check_count" "check_count" s_check_count T.a_check_count T.d_check_count nn_check_count ["count"] 34 1 none false b_check_count [false] [false] T.F_check_count sc_check_count rfl (fun _ => rfl) (os_ok rfl) rfl (.inl rfl) (fun cdv A outer s H E hr X eX tk hp => ?_)
  subst eX
  unfold b_check_count
  exact (vss_one (vs_if (VW.vt (vw_or (vt_not (vt_val (ve_call (ok_is_whole T) tk (hr.mono (by decide)) T.g_is_whole T.k_is_whole T.b_is_whole (va_cons (ve_var 0) va_nil)))) (vw_or (vt_cmp (o_ltA (hr.units)) (ve_var 0) ve_int) (vw_or1 (vt_cmp (o_gtA (hr.units)) (ve_var 0) (ve_konst T.c_MOST_LETTERS)))))) (vss_one vs_stuck) vss_nil))

theorem ok_is_word (T : Txt P K mg) : FnOk P w K mg base (L2.CX P w) 35 T.a_is_word T.d_is_word ["word", "count"] (spec K mg 2 none false m_is_word) := by
  refine @fn_by P w K mg base "is_word" "is_word" s_is_word T.a_is_word T.d_is_word nn_is_word ["word", "count"] 34 2 none false b_is_word [false, false, false] [false, false, false] T.F_is_word sc_is_word rfl (fun _ => rfl) (os_ok rfl) rfl (.inl rfl) (fun cdv A outer s H E hr X eX tk hp => ?_)
  subst eX
  unfold b_is_word
  exact (vss_cons (vs_if (VW.vt (vw_or (vt_not (vt_val (ve_callB c_isi (va_cons (ve_var 0) (va_cons (ve_ty (T := .tuple) T.z_tuple bt_tuple) va_nil)) T.z_isinstance bt_isinstance))) (vw_or1 (vt_cmp (o_gtA (hr.units)) (ve_callB c_lenA (va_cons (ve_var 0) va_nil) T.z_len bt_len) (ve_konst T.c_MOST))))) (vss_one (vs_ret ve_bl)) vss_nil) (vss_cons (vs_for hp (vi_seqA (ve_var 0)) (vg_name 2 sc_is_word.nd) (vss_one (vs_if (VW.vt (vw_or (vt_not (vt_val (ve_call (ok_is_whole T) tk (hr.mono (by decide)) T.g_is_whole T.k_is_whole T.b_is_whole (va_cons (ve_var 2) va_nil)))) (vw_or (vt_cmp (o_ltA (hr.units)) (ve_var 2) ve_int) (vw_or1 (vt_cmp (o_geA (hr.units)) (ve_var 2) (ve_var 1)))))) (vss_one (vs_ret ve_bl)) vss_nil))) (vss_one (vs_ret ve_bl))))

theorem ok_divisor (T : Txt P K mg) : FnOk P w K mg base (L2.CX P w) 34 T.a_divisor T.d_divisor ["one", "other"] (spec K mg 2 none false m_divisor) := by
  refine @fn_by P w K mg base "divisor" "divisor" s_divisor T.a_divisor T.d_divisor nn_divisor ["one", "other"] 33 2 none false b_divisor [false, false] [false, false] T.F_divisor sc_divisor rfl (fun _ => rfl) (os_ok rfl) rfl (.inl rfl) (fun cdv A outer s H E hr X eX tk hp => ?_)
  subst eX
  unfold b_divisor
  exact (vss_cons (vs_set 0 (ve_callB c_abs (va_cons (ve_var 0) va_nil) T.z_abs bt_abs) sc_divisor.nd) (vss_cons (vs_set 1 (ve_callB c_abs (va_cons (ve_var 1) va_nil) T.z_abs bt_abs) sc_divisor.nd) (vss_cons (vs_while (fuel := (fuelInt 1)) hp (vt_cmp (o_ne (hr.units)) (ve_var 1) ve_int) (vss_one (vs_par 0 1 (va_cons (ve_var 1) (va_cons (ve_bin o_mod (ve_var 0) (ve_var 1)) va_nil)) sc_divisor.nd))) (vss_one (vs_ret (ve_var 0))))))

theorem ok_is_number (T : Txt P K mg) : FnOk P w K mg base (L2.CX P w) 35 T.a_is_number T.d_is_number ["one"] (spec K mg 1 none false m_is_number) := by
  refine @fn_by P w K mg base "is_number" "is_number" s_is_number T.a_is_number T.d_is_number nn_is_number ["one"] 34 1 none false b_is_number [false] [false] T.F_is_number sc_is_number rfl (fun _ => rfl) (os_ok rfl) rfl (.inl rfl) (fun cdv A outer s H E hr X eX tk hp => ?_)
  subst eX
  unfold b_is_number
  exact (vss_cons (vs_if (VW.vt (vw_or (vt_not (vt_val (ve_callB c_isi (va_cons (ve_var 0) (va_cons (ve_ty (T := .tuple) T.z_tuple bt_tuple) va_nil)) T.z_isinstance bt_isinstance))) (vw_or1 (vt_cmp (o_ne (hr.units)) (ve_callB c_lenA (va_cons (ve_var 0) va_nil) T.z_len bt_len) ve_int)))) (vss_one (vs_ret ve_bl)) vss_nil) (vss_cons (vs_if (VW.vt (vw_or (vt_not (vt_val (ve_call (ok_is_whole T) tk (hr.mono (by decide)) T.g_is_whole T.k_is_whole T.b_is_whole (va_cons (ve_ixA (hr.units) (ve_var 0) ve_int) va_nil)))) (vw_or1 (vt_not (vt_val (ve_call (ok_is_whole T) tk (hr.mono (by decide)) T.g_is_whole T.k_is_whole T.b_is_whole (va_cons (ve_ixA (hr.units) (ve_var 0) ve_int) va_nil))))))) (vss_one (vs_ret ve_bl)) vss_nil) (vss_one (vs_ret (ve_and (ve_cmp (o_geA (hr.units)) (ve_ixA (hr.units) (ve_var 0) ve_int) ve_int) (ve_one (ve_cmp (o_eq (hr.units)) (ve_call (ok_divisor T) tk (hr.mono (by decide)) T.g_divisor T.k_divisor T.b_divisor (va_cons (ve_ixA (hr.units) (ve_var 0) ve_int) (va_cons (ve_ixA (hr.units) (ve_var 0) ve_int) va_nil))) ve_int)))))))

theorem ok_is_term (T : Txt P K mg) : FnOk P w K mg base (L2.CX P w) 36 T.a_is_term T.d_is_term ["told", "count"] (spec K mg 2 none false m_is_term) := by
  refine @fn_by P w K mg base "is_term" "is_term" s_is_term T.a_is_term T.d_is_term nn_is_term ["told", "count"] 35 2 none false b_is_term [false, false] [false, false] T.F_is_term sc_is_term rfl (fun _ => rfl) (os_ok rfl) rfl (.inl rfl) (fun cdv A outer s H E hr X eX tk hp => ?_)
  subst eX
  unfold b_is_term
  exact (vss_cons (vs_if (VW.vt (vw_or (vt_not (vt_val (ve_callB c_isi (va_cons (ve_var 0) (va_cons (ve_ty (T := .tuple) T.z_tuple bt_tuple) va_nil)) T.z_isinstance bt_isinstance))) (vw_or1 (vt_cmp (o_ne (hr.units)) (ve_callB c_lenA (va_cons (ve_var 0) va_nil) T.z_len bt_len) ve_int)))) (vss_one (vs_ret ve_bl)) vss_nil) (vss_one (vs_ret (ve_and (ve_call (ok_is_word T) tk (hr.mono (by decide)) T.g_is_word T.k_is_word T.b_is_word (va_cons (ve_ixA (hr.units) (ve_var 0) ve_int) (va_cons (ve_var 1) va_nil))) (ve_and (ve_call (ok_is_number T) tk (hr.mono (by decide)) T.g_is_number T.k_is_number T.b_is_number (va_cons (ve_ixA (hr.units) (ve_var 0) ve_int) va_nil)) (ve_one (ve_cmp (o_ne (hr.units)) (ve_ixA (hr.units) (ve_ixA (hr.units) (ve_var 0) ve_int) ve_int) ve_int)))))))

theorem ok_rank (T : Txt P K mg) : FnOk P w K mg base (L2.CX P w) 34 T.a_rank T.d_rank ["word"] (spec K mg 1 none false m_rank) := by
  refine @fn_by P w K mg base "rank" "rank" s_rank T.a_rank T.d_rank nn_rank ["word"] 33 1 none false b_rank [false] [false] T.F_rank sc_rank rfl (fun _ => rfl) (os_ok rfl) rfl (.inl rfl) (fun cdv A outer s H E hr X eX tk hp => ?_)
  subst eX
  unfold b_rank
  exact (vss_one (vs_ret (ve_tup (va_cons (ve_callB c_lenA (va_cons (ve_var 0) va_nil) T.z_len bt_len) (va_cons (ve_var 0) va_nil)))))

theorem ok_check_sum (T : Txt P K mg) : FnOk P w K mg base (L2.CX P w) 37 T.a_check_sum T.d_check_sum ["count", "total"] (spec K mg 2 none false m_check_sum) := by
  refine @fn_by P w K mg base "check_sum" "check_sum" s_check_sum T.a_check_sum T.d_check_sum nn_check_sum ["count", "total"] 36 2 none false b_check_sum [false, false, false, false] [false, false, false, false] T.F_check_sum sc_check_sum rfl (fun _ => rfl) (os_ok rfl) rfl (.inl rfl) (fun cdv A outer s H E hr X eX tk hp => ?_)
  subst eX
  unfold b_check_sum
  exact (vss_one (vs_for hp (vi_enum (va_cons (ve_var 1) va_nil) T.z_enumerate) (vg_tup (vgs_cons (vg_name 2 sc_check_sum.nd) (vgs_cons (vg_name 3 sc_check_sum.nd) vgs_nil))) (vss_cons (vs_if (vt_not (vt_val (ve_call (ok_is_term T) tk (hr.mono (by decide)) T.g_is_term T.k_is_term T.b_is_term (va_cons (ve_var 3) (va_cons (ve_var 0) va_nil))))) (vss_one vs_stuck) vss_nil) (vss_one (vs_if (VW.vt (vw_and (vt_cmp (o_gtA (hr.units)) (ve_var 2) ve_int) (vw_and1 (vt_cmp (o_geA (hr.units)) (ve_call (ok_rank T) tk (hr.mono (by decide)) T.g_rank T.k_rank T.b_rank (va_cons (ve_ixA (hr.units) (ve_ixA (hr.units) (ve_var 1) (ve_bin o_sub (ve_var 2) ve_int)) ve_int) va_nil)) (ve_call (ok_rank T) tk (hr.mono (by decide)) T.g_rank T.k_rank T.b_rank (va_cons (ve_ixA (hr.units) (ve_var 3) ve_int) va_nil)))))) (vss_one vs_stuck) vss_nil)))))

theorem ok_told_sum (T : Txt P K mg) : FnOk P w K mg base (L2.CX P w) 37 T.a_told_sum T.d_told_sum ["numbers"] (spec K mg 1 none true m_told_sum) := by
  refine @fn_by P w K mg base "told_sum" "told_sum" s_told_sum T.a_told_sum T.d_told_sum nn_told_sum ["numbers"] 36 1 none true b_told_sum [false, false] [false, false] T.F_told_sum sc_told_sum rfl (fun _ => rfl) (os_ok rfl) rfl (.inr nn_ret) (fun cdv A outer s H E hr X eX tk hp => ?_)
  subst eX
  unfold b_told_sum
  exact (vss_one (vs_retO (ve_lc (own := [("word", 1)]) (blkOk_by (N := nn_told_sum) (sc := defScope s_told_sum) (by decide +kernel)) (vi_seqA (VE.fz (ve_sortK (ok_rank T) (hr.mono (by decide)) T.g_rank T.b_rank (ve_var 0) T.z_sorted))) (fun _ _ _ _ _ => (vg_name 1 sc_told_sum.nd)) (fun _ _ _ _ _ => vts_nil) (fun _ _ _ _ _ => (ve_tup (va_cons (ve_var 1) (va_cons (ve_ixA (hr.units) (ve_var 0) (ve_var 1)) va_nil)))) sc_told_sum.nd)))

theorem ok_lowest (T : Txt P K mg) : FnOk P w K mg base (L2.CX P w) 35 T.a_lowest T.d_lowest ["top", "bottom"] (spec K mg 2 none false m_lowest) := by
  refine @fn_by P w K mg base "lowest" "lowest" s_lowest T.a_lowest T.d_lowest nn_lowest ["top", "bottom"] 34 2 none false b_lowest [false, false, false] [false, false, false] T.F_lowest sc_lowest rfl (fun _ => rfl) (os_ok rfl) rfl (.inl rfl) (fun cdv A outer s H E hr X eX tk hp => ?_)
  subst eX
  unfold b_lowest
  exact (vss_cons (vs_if (vt_cmp (o_ltA (hr.units)) (ve_var 1) ve_int) (vss_cons (vs_set 0 (ve_un o_neg (ve_var 0)) sc_lowest.nd) (vss_one (vs_set 1 (ve_un o_neg (ve_var 1)) sc_lowest.nd))) vss_nil) (vss_cons (vs_set 2 (ve_call (ok_divisor T) tk (hr.mono (by decide)) T.g_divisor T.k_divisor T.b_divisor (va_cons (ve_var 0) (va_cons (ve_var 1) va_nil))) sc_lowest.nd) (vss_one (vs_ret (ve_tup (va_cons (ve_bin (o_fdiv (Dv.mk T.seer T.tree (dv_room hr (by decide)) ⟨_, _, rfl, sc_lowest.gen, sc_lowest.co, rfl, rfl⟩)) (ve_var 0) (ve_var 2)) (va_cons (ve_bin (o_fdiv (Dv.mk T.seer T.tree (dv_room hr (by decide)) ⟨_, _, rfl, sc_lowest.gen, sc_lowest.co, rfl, rfl⟩)) (ve_var 1) (ve_var 2)) va_nil)))))))

theorem ok_plus (T : Txt P K mg) : FnOk P w K mg base (L2.CX P w) 36 T.a_plus T.d_plus ["one", "other"] (spec K mg 2 none false m_plus) := by
  refine @fn_by P w K mg base "plus" "plus" s_plus T.a_plus T.d_plus nn_plus ["one", "other"] 35 2 none false b_plus [false, false] [false, false] T.F_plus sc_plus rfl (fun _ => rfl) (os_ok rfl) rfl (.inl rfl) (fun cdv A outer s H E hr X eX tk hp => ?_)
  subst eX
  unfold b_plus
  exact (vss_cons (vs_if (VW.vt (vw_and (vt_cmp (o_eq (hr.units)) (ve_ixA (hr.units) (ve_var 0) ve_int) ve_int) (vw_and1 (vt_cmp (o_eq (hr.units)) (ve_ixA (hr.units) (ve_var 1) ve_int) ve_int)))) (vss_one (vs_ret (ve_tup (va_cons (ve_bin o_add (ve_ixA (hr.units) (ve_var 0) ve_int) (ve_ixA (hr.units) (ve_var 1) ve_int)) (va_cons ve_int va_nil))))) vss_nil) (vss_one (vs_ret (ve_call (ok_lowest T) tk (hr.mono (by decide)) T.g_lowest T.k_lowest T.b_lowest (va_cons (ve_bin o_add (ve_bin o_mul (ve_ixA (hr.units) (ve_var 0) ve_int) (ve_ixA (hr.units) (ve_var 1) ve_int)) (ve_bin o_mul (ve_ixA (hr.units) (ve_var 1) ve_int) (ve_ixA (hr.units) (ve_var 0) ve_int))) (va_cons (ve_bin o_mul (ve_ixA (hr.units) (ve_var 0) ve_int) (ve_ixA (hr.units) (ve_var 1) ve_int)) va_nil))))))

theorem ok_put_to (T : Txt P K mg) : FnOk P w K mg base (L2.CX P w) 37 T.a_put_to T.d_put_to ["numbers", "word", "number"] (spec K mg 3 (some 0) false m_put_to) := by
  refine @fn_by P w K mg base "put_to" "put_to" s_put_to T.a_put_to T.d_put_to nn_put_to ["numbers", "word", "number"] 36 3 (some 0) false b_put_to [true, false, false, false] [true, false, false, false] T.F_put_to sc_put_to rfl (fun _ => rfl) (os_ok rfl) rfl (.inl rfl) (fun cdv A outer s H E hr X eX tk hp => ?_)
  subst eX
  unfold b_put_to
  exact (vss_cons (vs_set 3 (ve_call (ok_plus T) tk (hr.mono (by decide)) T.g_plus T.k_plus T.b_plus (va_cons (ve_dgetO (hr.units) 0 (ve_var 1) (ve_konst T.c_NOUGHT)) (va_cons (ve_var 2) va_nil))) sc_put_to.nd) (vss_one (vs_if (vt_cmp (o_ne (hr.units)) (ve_ixA (hr.units) (ve_var 3) ve_int) ve_int) (vss_one (vs_setA (hr.units) 0 (ve_var 3) (ve_var 1))) (vss_one (vs_if (vt_peek (vt_cmp (o_inA (hu65 hr)) (ve_var 1) (ve_var 0))) (vss_one (vs_expr (ve_dpop (hr.units) 0 (ve_var 1)))) vss_nil)))))

theorem ok_times (T : Txt P K mg) : FnOk P w K mg base (L2.CX P w) 36 T.a_times T.d_times ["one", "other"] (spec K mg 2 none false m_times) := by
  refine @fn_by P w K mg base "times" "times" s_times T.a_times T.d_times nn_times ["one", "other"] 35 2 none false b_times [false, false] [false, false] T.F_times sc_times rfl (fun _ => rfl) (os_ok rfl) rfl (.inl rfl) (fun cdv A outer s H E hr X eX tk hp => ?_)
  subst eX
  unfold b_times
  exact (vss_cons (vs_if (VW.vt (vw_and (vt_cmp (o_eq (hr.units)) (ve_ixA (hr.units) (ve_var 0) ve_int) ve_int) (vw_and1 (vt_cmp (o_eq (hr.units)) (ve_ixA (hr.units) (ve_var 1) ve_int) ve_int)))) (vss_one (vs_ret (ve_tup (va_cons (ve_bin o_mul (ve_ixA (hr.units) (ve_var 0) ve_int) (ve_ixA (hr.units) (ve_var 1) ve_int)) (va_cons ve_int va_nil))))) vss_nil) (vss_one (vs_ret (ve_call (ok_lowest T) tk (hr.mono (by decide)) T.g_lowest T.k_lowest T.b_lowest (va_cons (ve_bin o_mul (ve_ixA (hr.units) (ve_var 0) ve_int) (ve_ixA (hr.units) (ve_var 1) ve_int)) (va_cons (ve_bin o_mul (ve_ixA (hr.units) (ve_var 0) ve_int) (ve_ixA (hr.units) (ve_var 1) ve_int)) va_nil))))))

theorem ok_joined_short (T : Txt P K mg) : FnOk P w K mg base (L2.CX P w) 38 T.a_joined_short T.d_joined_short ["one", "other", "most"] (spec K mg 3 none true m_joined_short) := by
  refine @fn_by P w K mg base "joined_short" "joined_short" s_joined_short T.a_joined_short T.d_joined_short nn_joined_short ["one", "other", "most"] 37 3 none true b_joined_short [false, false, false, false, false, false, false, false] [false, false, false, false, false, false, false, false] T.F_joined_short sc_joined_short rfl (fun _ => rfl) (os_ok rfl) rfl (.inr (nn_seq (nn_seq nn_ret))) (fun cdv A outer s H E hr X eX tk hp => ?_)
  subst eX
  unfold b_joined_short
  exact (vss_cons (vs_setO 3 ve_dnew sc_joined_short.nd) (vss_cons (vs_for hp (vi_seqA (ve_var 0)) (vg_tup (vgs_cons (vg_name 4 sc_joined_short.nd) (vgs_cons (vg_name 5 sc_joined_short.nd) vgs_nil))) (vss_one (vs_for hp (vi_seqA (ve_var 1)) (vg_tup (vgs_cons (vg_name 6 sc_joined_short.nd) (vgs_cons (vg_name 7 sc_joined_short.nd) vgs_nil))) (vss_one (vs_if (vt_cmp (o_leA (hr.units)) (ve_bin o_add (ve_callB c_lenA (va_cons (ve_var 4) va_nil) T.z_len bt_len) (ve_callB c_lenA (va_cons (ve_var 6) va_nil) T.z_len bt_len)) (ve_var 2)) (vss_one (vs_expr (ve_callM (ok_put_to T) tk (hr.mono (by decide)) T.g_put_to T.k_put_to T.b_put_to (vb_here 3 (va_cons (ve_bin o_add (ve_var 4) (ve_var 6)) (va_cons (ve_call (ok_times T) tk (hr.mono (by decide)) T.g_times T.k_times T.b_times (va_cons (ve_var 5) (va_cons (ve_var 7) va_nil))) va_nil)))))) vss_nil))))) (vss_one (vs_retO (ve_peekL (ve_call (ok_told_sum T) tk (hr.mono (by decide)) T.g_told_sum T.k_told_sum T.b_told_sum (va_cons (ve_var 3) va_nil)))))))

theorem ok_added_up (T : Txt P K mg) : FnOk P w K mg base (L2.CX P w) 39 T.a_added_up T.d_added_up ["total", "shares", "most"] (spec K mg 3 none true m_added_up) := by
  refine @fn_by P w K mg base "added_up" "added_up" s_added_up T.a_added_up T.d_added_up nn_added_up ["total", "shares", "most"] 38 3 none true b_added_up [false, false, false, false, false, false, false, false] [false, false, false, false, false, false, false, false] T.F_added_up sc_added_up rfl (fun _ => rfl) (os_ok rfl) rfl (.inr (nn_seq (nn_seq (nn_seq nn_ret)))) (fun cdv A outer s H E hr X eX tk hp => ?_)
  subst eX
  unfold b_added_up
  exact (vss_cons (vs_setO 3 ve_dnew sc_added_up.nd) (vss_cons (vs_set 4 (VE.fz (ve_lstO (va_cons (ve_tup (va_cons (ve_tup va_nil) (va_cons (ve_konst T.c_ONE) va_nil))) va_nil))) sc_added_up.nd) (vss_cons (vs_for hp (vi_seqA (ve_var 1)) (vg_name 5 sc_added_up.nd) (vss_cons (vs_set 4 (VE.fz (ve_call (ok_joined_short T) tk (hr.mono (by decide)) T.g_joined_short T.k_joined_short T.b_joined_short (va_cons (ve_var 4) (va_cons (ve_var 0) (va_cons (ve_var 2) va_nil))))) sc_added_up.nd) (vss_one (vs_for hp (vi_seqA (ve_var 4)) (vg_tup (vgs_cons (vg_name 6 sc_added_up.nd) (vgs_cons (vg_name 7 sc_added_up.nd) vgs_nil))) (vss_one (vs_expr (ve_callM (ok_put_to T) tk (hr.mono (by decide)) T.g_put_to T.k_put_to T.b_put_to (vb_here 3 (va_cons (ve_var 6) (va_cons (ve_call (ok_times T) tk (hr.mono (by decide)) T.g_times T.k_times T.b_times (va_cons (ve_var 7) (va_cons (ve_var 5) va_nil))) va_nil)))))))))) (vss_one (vs_retV 3)))))

theorem ok_fraction (T : Txt P K mg) : FnOk P w K mg base (L2.CX P w) 36 T.a_fraction T.d_fraction ["top", "bottom"] (spec K mg 2 none false m_fraction) := by
  refine @fn_by P w K mg base "fraction" "fraction" s_fraction T.a_fraction T.d_fraction nn_fraction ["top", "bottom"] 35 2 none false b_fraction [false, false] [false, false] T.F_fraction sc_fraction rfl (fun _ => rfl) (os_ok rfl) rfl (.inl rfl) (fun cdv A outer s H E hr X eX tk hp => ?_)
  subst eX
  unfold b_fraction
  exact (vss_cons (vs_if (vt_cmp (o_eq (hr.units)) (ve_var 1) ve_int) (vss_one vs_stuck) vss_nil) (vss_one (vs_ret (ve_call (ok_lowest T) tk (hr.mono (by decide)) T.g_lowest T.k_lowest T.b_lowest (va_cons (ve_var 0) (va_cons (ve_var 1) va_nil))))))

theorem ok_grown_short (T : Txt P K mg) : FnOk P w K mg base (L2.CX P w) 40 T.a_grown_short T.d_grown_short ["total", "most"] (spec K mg 2 none true m_grown_short) := by
  refine @fn_by P w K mg base "grown_short" "grown_short" s_grown_short T.a_grown_short T.d_grown_short nn_grown_short ["total", "most"] 39 2 none true b_grown_short [false, false, false, false] [false, false, false, false] T.F_grown_short sc_grown_short rfl (fun _ => rfl) (os_ok rfl) rfl (.inr (nn_seq (nn_seq nn_ret))) (fun cdv A outer s H E hr X eX tk hp => ?_)
  subst eX
  unfold b_grown_short
  exact (vss_cons (vs_setO 2 (ve_call (ok_added_up T) tk (hr.mono (by decide)) T.g_added_up T.k_added_up T.b_added_up (va_cons (ve_var 0) (va_cons (VE.fz (ve_lc (own := [("whole", 3)]) (blkOk_by (N := nn_grown_short) (sc := defScope s_grown_short) (by decide +kernel)) (vi_seqA (ve_tup (va_cons ve_int (va_cons ve_int (va_cons ve_int (va_cons ve_int (va_cons ve_int va_nil))))))) (fun _ _ _ _ _ => (vg_name 3 sc_grown_short.nd)) (fun _ _ _ _ _ => vts_nil) (fun _ _ _ _ _ => (ve_call (ok_fraction T) takes0 (hr.mono (by decide)) T.g_fraction T.k_fraction T.b_fraction (va_cons ve_int (va_cons (ve_var 3) va_nil)))) sc_grown_short.nd)) (va_cons (ve_var 1) va_nil)))) sc_grown_short.nd) (vss_cons (vs_expr (ve_callM (ok_put_to T) tk (hr.mono (by decide)) T.g_put_to T.k_put_to T.b_put_to (vb_here 2 (va_cons (ve_tup va_nil) (va_cons (ve_konst T.c_ONE) va_nil))))) (vss_one (vs_retO (ve_peekL (ve_call (ok_told_sum T) tk (hr.mono (by decide)) T.g_told_sum T.k_told_sum T.b_told_sum (va_cons (ve_var 2) va_nil)))))))

theorem ok_gathered (T : Txt P K mg) : FnOk P w K mg base (L2.CX P w) 34 T.a_gathered T.d_gathered ["total"] (spec K mg 1 none true m_gathered) := by
  refine @fn_by P w K mg base "gathered" "gathered" s_gathered T.a_gathered T.d_gathered nn_gathered ["total"] 33 1 none true b_gathered [false] [false] T.F_gathered sc_gathered rfl (fun _ => rfl) (os_ok rfl) rfl (.inr nn_ret) (fun cdv A outer s H E hr X eX tk hp => ?_)
  subst eX
  unfold b_gathered
  exact (vss_one (vs_retO (ve_dictL (hr.units) (ve_var 0) T.z_dict)))

theorem ok_grown (T : Txt P K mg) : FnOk P w K mg base (L2.CX P w) 41 T.a_grown T.d_grown ["count", "total"] (spec K mg 2 none true m_grown) := by
  refine @fn_by P w K mg base "grown" "grown" s_grown T.a_grown T.d_grown nn_grown ["count", "total"] 40 2 none true b_grown [false, false] [false, false] T.F_grown sc_grown rfl (fun _ => rfl) (os_ok rfl) rfl (.inr (nn_seq (nn_seq (nn_seq nn_ret)))) (fun cdv A outer s H E hr X eX tk hp => ?_)
  subst eX
  unfold b_grown
  exact (vss_cons (vs_expr (ve_call (ok_check_count T) tk (hr.mono (by decide)) T.g_check_count T.k_check_count T.b_check_count (va_cons (ve_var 0) va_nil))) (vss_cons (vs_expr (ve_call (ok_check_sum T) tk (hr.mono (by decide)) T.g_check_sum T.k_check_sum T.b_check_sum (va_cons (ve_var 0) (va_cons (ve_var 1) va_nil)))) (vss_cons (vs_if (vt_cmp (o_inA (hu65 hr)) (ve_tup va_nil) (VE.fz (ve_call (ok_gathered T) tk (hr.mono (by decide)) T.g_gathered T.k_gathered T.b_gathered (va_cons (ve_var 1) va_nil)))) (vss_one vs_stuck) vss_nil) (vss_one (vs_retO (ve_call (ok_grown_short T) tk (hr.mono (by decide)) T.g_grown_short T.k_grown_short T.b_grown_short (va_cons (ve_var 1) (va_cons (ve_konst T.c_MOST) va_nil))))))))

theorem ok_logged_short (T : Txt P K mg) : FnOk P w K mg base (L2.CX P w) 40 T.a_logged_short T.d_logged_short ["total", "most"] (spec K mg 2 none true m_logged_short) := by
  refine @fn_by P w K mg base "logged_short" "logged_short" s_logged_short T.a_logged_short T.d_logged_short nn_logged_short ["total", "most"] 39 2 none true b_logged_short [false, false, false, false, false] [false, false, false, false, false] T.F_logged_short sc_logged_short rfl (fun _ => rfl) (os_ok rfl) rfl (.inr (nn_seq nn_ret)) (fun cdv A outer s H E hr X eX tk hp => ?_)
  subst eX
  unfold b_logged_short
  exact (vss_cons (VS.fz 2 (vs_setLc 2 (own := [("word", 3), ("number", 4)]) (blkOk_by (N := nn_logged_short) (sc := defScope s_logged_short) (by decide +kernel)) (vi_seqA (ve_var 0)) (fun _ _ _ _ _ => (vg_tup (vgs_cons (vg_name 3 sc_logged_short.nd) (vgs_cons (vg_name 4 sc_logged_short.nd) vgs_nil)))) (fun _ _ _ _ _ => (vts_one (vt_cmp (o_ne (hr.units)) (ve_var 3) (ve_tup va_nil)))) (fun _ _ _ _ _ => (ve_tup (va_cons (ve_var 3) (va_cons (ve_var 4) va_nil)))) sc_logged_short.nd (by rfl))) (vss_one (vs_retO (ve_call (ok_told_sum T) tk (hr.mono (by decide)) T.g_told_sum T.k_told_sum T.b_told_sum (va_cons (VE.fz (ve_call (ok_added_up T) tk (hr.mono (by decide)) T.g_added_up T.k_added_up T.b_added_up (va_cons (ve_var 2) (va_cons (VE.fz (ve_lstO (va_cons (ve_tup (va_cons ve_int (va_cons ve_int va_nil))) (va_cons (ve_tup (va_cons (ve_un o_neg ve_int) (va_cons ve_int va_nil))) (va_cons (ve_tup (va_cons ve_int (va_cons ve_int va_nil))) (va_cons (ve_tup (va_cons (ve_un o_neg ve_int) (va_cons ve_int va_nil))) (va_cons (ve_tup (va_cons ve_int (va_cons ve_int va_nil))) va_nil))))))) (va_cons (ve_var 1) va_nil))))) va_nil)))))

theorem ok_logged (T : Txt P K mg) : FnOk P w K mg base (L2.CX P w) 41 T.a_logged T.d_logged ["count", "total"] (spec K mg 2 none true m_logged) := by
  refine @fn_by P w K mg base "logged" "logged" s_logged T.a_logged T.d_logged nn_logged ["count", "total"] 40 2 none true b_logged [false, false] [false, false] T.F_logged sc_logged rfl (fun _ => rfl) (os_ok rfl) rfl (.inr (nn_seq (nn_seq (nn_seq nn_ret)))) (fun cdv A outer s H E hr X eX tk hp => ?_)
  subst eX
  unfold b_logged
  exact (vss_cons (vs_expr (ve_call (ok_check_count T) tk (hr.mono (by decide)) T.g_check_count T.k_check_count T.b_check_count (va_cons (ve_var 0) va_nil))) (vss_cons (vs_expr (ve_call (ok_check_sum T) tk (hr.mono (by decide)) T.g_check_sum T.k_check_sum T.b_check_sum (va_cons (ve_var 0) (va_cons (ve_var 1) va_nil)))) (vss_cons (vs_if (vt_cmp (o_ne (hr.units)) (ve_dget (hr.units) (VE.fz (ve_call (ok_gathered T) tk (hr.mono (by decide)) T.g_gathered T.k_gathered T.b_gathered (va_cons (ve_var 1) va_nil))) (ve_tup va_nil) (ve_konst T.c_NOUGHT)) (ve_konst T.c_ONE)) (vss_one vs_stuck) vss_nil) (vss_one (vs_retO (ve_call (ok_logged_short T) tk (hr.mono (by decide)) T.g_logged_short T.k_logged_short T.b_logged_short (va_cons (ve_var 1) (va_cons (ve_konst T.c_MOST) va_nil))))))))

theorem ok_law (T : Txt P K mg) : FnG P w K mg base 42 T.a_law T.d_law ["_law_script"] (spec K mg 1 none false m_law) := by
  refine @fn_byG P w K mg base "law" "law" s_law T.a_law T.d_law nn_law ["_law_script"] 41 1 b_law [false, false, false, false, false, false, false, false, false, false, false, false] [false, false, false, false, false, false, false, false, false, false, false, false] T.F_law sc_law rfl (os_ok rfl) rfl (fun cdv A outer s H E hgd hr X eX tk hp => ?_)
  subst eX
  unfold b_law
  exact (vss_cons (vs_for hp (vi_range1 (va_cons (ve_bin o_add ve_int (ve_callTy c_int (va_cons (ve_cmp (o_gtA (hr.units)) (ve_callB c_lenA (va_cons (ve_var 0) va_nil) T.z_len bt_len) ve_int) va_nil) T.z_int bt_int)) va_nil) T.z_range) (vg_name 1 sc_law.nd) (VSs.fz (osN := [false, false, true, false, false, false, false, false, false, false, false, false]) 2 (vss_cons (vs_setO 2 (ve_call (ok__law_purse T) tk (hr.mono (by decide)) T.g__law_purse T.k__law_purse T.b__law_purse (va_cons (ve_call (ok__law_at T) tk (hr.mono (by decide)) T.g__law_at T.k__law_at T.b__law_at (va_cons (ve_var 0) (va_cons (ve_var 1) va_nil))) (va_cons (ve_var 1) va_nil))) sc_law.nd) (vss_cons (vs_set 3 (ve_bin o_add ve_int (ve_callM (ok__law_take T) tk (hr.mono (by decide)) T.g__law_take T.k__law_take T.b__law_take (vb_here 2 (va_cons ve_int va_nil)))) sc_law.nd) (vss_cons (vs_set 4 (VE.fz (ve_callM (ok__law_drawn T) tk (hr.mono (by decide)) T.g__law_drawn T.k__law_drawn T.b__law_drawn (vb_here 2 (va_cons (ve_var 3) va_nil)))) sc_law.nd) (vss_cons (vs_set 5 (ve_bin o_add (VE.fz (ve_lstO (va_cons (ve_tup (va_cons (ve_tup va_nil) (va_cons (ve_tup (va_cons ve_int (va_cons ve_int va_nil))) va_nil))) va_nil))) (ve_var 4)) sc_law.nd) (vss_cons (vs_set 6 (VE.fz (ve_lstO (va_cons (VE.fz (ve_call (ok__law_grown T) tk (hr.mono (by decide)) T.g__law_grown T.k__law_grown T.b__law_grown (va_cons (ve_var 4) va_nil))) (va_cons (VE.fz (ve_call (ok__law_logged T) tk (hr.mono (by decide)) T.g__law_logged T.k__law_logged T.b__law_logged (va_cons (ve_var 5) va_nil))) va_nil)))) sc_law.nd) (vss_cons (vs_set 7 (VE.fz (ve_lstO (va_cons (VE.fz (ve_list (va_cons (ve_var 4) va_nil) rfl T.z_list)) (va_cons (VE.fz (ve_list (va_cons (ve_var 5) va_nil) rfl T.z_list)) va_nil)))) sc_law.nd) (vss_one (vs_for hp (vi_range1 (va_cons ve_int va_nil) T.z_range) (vg_name 8 sc_law.nd) (vss_tree (TSs.to (o2 := [false, false, true, false, false, false, false, false, false, false, false, false]) (n2 := []) (TSs.fz 9 (TSs.fz 10 (tss_cons (ts_setT (nd := true) [false, false, false, false, false, false, false, false, false, false, false, false] [] [] 9 (vet_lst (vat_cons (vet_own (ve_call (ok_grown T) tk (hr.mono (by decide)) T.g_grown T.k_grown T.b_grown (va_cons (ve_var 3) (va_cons (ve_ixA (hr.units) (ve_var 7) ve_int) va_nil)))) (vat_cons (vet_own (ve_call (ok_logged T) tk (hr.mono (by decide)) T.g_logged T.k_logged T.b_logged (va_cons (ve_var 3) (va_cons (ve_ixA (hr.units) (ve_var 7) ve_int) va_nil)))) vat_nil))) sc_law.nd) (tss_cons (ts_if [false, false, false, false, false, false, false, false, false, false, false, false] [] [] (VW.vt (vw_or (vt_cmp (o_neS) (ve_callTy (c_str hgd hr.units) (va_cons (ve_var 9) va_nil) T.z_str bt_str) (ve_callTy (c_str hgd hr.units) (va_cons (ve_var 6) va_nil) T.z_str bt_str)) (vw_or1 (vt_cmp (o_ne (hr.units)) (ve_var 7) (VE.fz (ve_lstO (va_cons (ve_var 4) (va_cons (ve_var 5) va_nil)))))))) (tss_one (ts_base (vs_ret ve_bl))) (TSs.to (o2 := [false, false, true, false, false, false, false, false, false, false, false, false]) (n2 := [(9, true)]) tss_nil)) (tss_cons (ts_setT (nd := true) [false, false, false, false, false, false, false, false, false, false, false, false] [] [] 10 (vet_lst (vat_cons (vet_own (ve_call (ok_logged T) tk (hr.mono (by decide)) T.g_logged T.k_logged T.b_logged (va_cons (ve_var 3) (va_cons (ve_ixA (hr.units) (ve_var 9) ve_int) va_nil)))) (vat_cons (vet_own (ve_call (ok_grown T) tk (hr.mono (by decide)) T.g_grown T.k_grown T.b_grown (va_cons (ve_var 3) (va_cons (ve_ixA (hr.units) (ve_var 9) ve_int) va_nil)))) vat_nil))) sc_law.nd) (tss_cons (ts_if [false, false, false, false, false, false, false, false, false, false, false, false] [] [] (VW.vt (vw_or (vt_cmp (o_ne (hr.units)) (ve_var 10) (VE.fz (ve_lstO (va_cons (ve_var 4) (va_cons (ve_var 5) va_nil))))) (vw_or1 (vt_cmp (o_ne (hr.units)) (ve_var 9) (ve_var 6))))) (tss_one (ts_base (vs_ret ve_bl))) (TSs.to (o2 := [false, false, true, false, false, false, false, false, false, false, false, false]) (n2 := [(10, true), (9, true)]) tss_nil)) (tss_one (ts_forClear2 9 10 11 hp sc_law.nd)))))))))))))))))))) (vss_one (vs_ret ve_bl)))

end

theorem all_mk {l : PySem.W.OpenLaw} {w : World} {K : PySem.W.Frag} {h : Heap} {mg : Str → Option Value} {fa : Addr} (X : K.In h) (G : h.Ns mainGlobals mg) (hfa : mg "law" = some (.ref fa)) (tree : l.prog.given.tree = none)
    {f__law_mixed : Addr} {oc__law_mixed kV__law_mixed dc__law_mixed pm__law_mixed cd__law_mixed ct__law_mixed : Value} {od__law_mixed an__law_mixed : Option Addr} {sl__law_mixed : Array (Option Value)}
    {f__law_purse : Addr} {oc__law_purse kV__law_purse dc__law_purse pm__law_purse cd__law_purse ct__law_purse : Value} {od__law_purse an__law_purse : Option Addr} {sl__law_purse : Array (Option Value)}
    {f__law_rank : Addr} {oc__law_rank kV__law_rank dc__law_rank pm__law_rank cd__law_rank ct__law_rank : Value} {od__law_rank an__law_rank : Option Addr} {sl__law_rank : Array (Option Value)}
    {f__law_told : Addr} {oc__law_told kV__law_told dc__law_told pm__law_told cd__law_told ct__law_told : Value} {od__law_told an__law_told : Option Addr} {sl__law_told : Array (Option Value)}
    {f__law_take : Addr} {oc__law_take kV__law_take dc__law_take pm__law_take cd__law_take ct__law_take : Value} {od__law_take an__law_take : Option Addr} {sl__law_take : Array (Option Value)}
    {f__law_low : Addr} {oc__law_low kV__law_low dc__law_low pm__law_low cd__law_low ct__law_low : Value} {od__law_low an__law_low : Option Addr} {sl__law_low : Array (Option Value)}
    {f__law_number : Addr} {oc__law_number kV__law_number dc__law_number pm__law_number cd__law_number ct__law_number : Value} {od__law_number an__law_number : Option Addr} {sl__law_number : Array (Option Value)}
    {f__law_drawn : Addr} {oc__law_drawn kV__law_drawn dc__law_drawn pm__law_drawn cd__law_drawn ct__law_drawn : Value} {od__law_drawn an__law_drawn : Option Addr} {sl__law_drawn : Array (Option Value)}
    {f__law_at : Addr} {oc__law_at kV__law_at dc__law_at pm__law_at cd__law_at ct__law_at : Value} {od__law_at an__law_at : Option Addr} {sl__law_at : Array (Option Value)}
    {f__law_plus : Addr} {oc__law_plus kV__law_plus dc__law_plus pm__law_plus cd__law_plus ct__law_plus : Value} {od__law_plus an__law_plus : Option Addr} {sl__law_plus : Array (Option Value)}
    {f__law_put : Addr} {oc__law_put kV__law_put dc__law_put pm__law_put cd__law_put ct__law_put : Value} {od__law_put an__law_put : Option Addr} {sl__law_put : Array (Option Value)}
    {f__law_by : Addr} {oc__law_by kV__law_by dc__law_by pm__law_by cd__law_by ct__law_by : Value} {od__law_by an__law_by : Option Addr} {sl__law_by : Array (Option Value)}
    {f__law_joined : Addr} {oc__law_joined kV__law_joined dc__law_joined pm__law_joined cd__law_joined ct__law_joined : Value} {od__law_joined an__law_joined : Option Addr} {sl__law_joined : Array (Option Value)}
    {f__law_powers : Addr} {oc__law_powers kV__law_powers dc__law_powers pm__law_powers cd__law_powers ct__law_powers : Value} {od__law_powers an__law_powers : Option Addr} {sl__law_powers : Array (Option Value)}
    {f__law_grown : Addr} {oc__law_grown kV__law_grown dc__law_grown pm__law_grown cd__law_grown ct__law_grown : Value} {od__law_grown an__law_grown : Option Addr} {sl__law_grown : Array (Option Value)}
    {f__law_logged : Addr} {oc__law_logged kV__law_logged dc__law_logged pm__law_logged cd__law_logged ct__law_logged : Value} {od__law_logged an__law_logged : Option Addr} {sl__law_logged : Array (Option Value)}
    {f_is_whole : Addr} {oc_is_whole kV_is_whole dc_is_whole pm_is_whole cd_is_whole ct_is_whole : Value} {od_is_whole an_is_whole : Option Addr} {sl_is_whole : Array (Option Value)}
    {f_check_count : Addr} {oc_check_count kV_check_count dc_check_count pm_check_count cd_check_count ct_check_count : Value} {od_check_count an_check_count : Option Addr} {sl_check_count : Array (Option Value)}
    {f_is_word : Addr} {oc_is_word kV_is_word dc_is_word pm_is_word cd_is_word ct_is_word : Value} {od_is_word an_is_word : Option Addr} {sl_is_word : Array (Option Value)}
    {f_divisor : Addr} {oc_divisor kV_divisor dc_divisor pm_divisor cd_divisor ct_divisor : Value} {od_divisor an_divisor : Option Addr} {sl_divisor : Array (Option Value)}
    {f_is_number : Addr} {oc_is_number kV_is_number dc_is_number pm_is_number cd_is_number ct_is_number : Value} {od_is_number an_is_number : Option Addr} {sl_is_number : Array (Option Value)}
    {f_is_term : Addr} {oc_is_term kV_is_term dc_is_term pm_is_term cd_is_term ct_is_term : Value} {od_is_term an_is_term : Option Addr} {sl_is_term : Array (Option Value)}
    {f_rank : Addr} {oc_rank kV_rank dc_rank pm_rank cd_rank ct_rank : Value} {od_rank an_rank : Option Addr} {sl_rank : Array (Option Value)}
    {f_check_sum : Addr} {oc_check_sum kV_check_sum dc_check_sum pm_check_sum cd_check_sum ct_check_sum : Value} {od_check_sum an_check_sum : Option Addr} {sl_check_sum : Array (Option Value)}
    {f_told_sum : Addr} {oc_told_sum kV_told_sum dc_told_sum pm_told_sum cd_told_sum ct_told_sum : Value} {od_told_sum an_told_sum : Option Addr} {sl_told_sum : Array (Option Value)}
    {f_lowest : Addr} {oc_lowest kV_lowest dc_lowest pm_lowest cd_lowest ct_lowest : Value} {od_lowest an_lowest : Option Addr} {sl_lowest : Array (Option Value)}
    {f_plus : Addr} {oc_plus kV_plus dc_plus pm_plus cd_plus ct_plus : Value} {od_plus an_plus : Option Addr} {sl_plus : Array (Option Value)}
    {f_put_to : Addr} {oc_put_to kV_put_to dc_put_to pm_put_to cd_put_to ct_put_to : Value} {od_put_to an_put_to : Option Addr} {sl_put_to : Array (Option Value)}
    {f_times : Addr} {oc_times kV_times dc_times pm_times cd_times ct_times : Value} {od_times an_times : Option Addr} {sl_times : Array (Option Value)}
    {f_joined_short : Addr} {oc_joined_short kV_joined_short dc_joined_short pm_joined_short cd_joined_short ct_joined_short : Value} {od_joined_short an_joined_short : Option Addr} {sl_joined_short : Array (Option Value)}
    {f_added_up : Addr} {oc_added_up kV_added_up dc_added_up pm_added_up cd_added_up ct_added_up : Value} {od_added_up an_added_up : Option Addr} {sl_added_up : Array (Option Value)}
    {f_fraction : Addr} {oc_fraction kV_fraction dc_fraction pm_fraction cd_fraction ct_fraction : Value} {od_fraction an_fraction : Option Addr} {sl_fraction : Array (Option Value)}
    {f_grown_short : Addr} {oc_grown_short kV_grown_short dc_grown_short pm_grown_short cd_grown_short ct_grown_short : Value} {od_grown_short an_grown_short : Option Addr} {sl_grown_short : Array (Option Value)}
    {f_gathered : Addr} {oc_gathered kV_gathered dc_gathered pm_gathered cd_gathered ct_gathered : Value} {od_gathered an_gathered : Option Addr} {sl_gathered : Array (Option Value)}
    {f_grown : Addr} {oc_grown kV_grown dc_grown pm_grown cd_grown ct_grown : Value} {od_grown an_grown : Option Addr} {sl_grown : Array (Option Value)}
    {f_logged_short : Addr} {oc_logged_short kV_logged_short dc_logged_short pm_logged_short cd_logged_short ct_logged_short : Value} {od_logged_short an_logged_short : Option Addr} {sl_logged_short : Array (Option Value)}
    {f_logged : Addr} {oc_logged kV_logged dc_logged pm_logged cd_logged ct_logged : Value} {od_logged an_logged : Option Addr} {sl_logged : Array (Option Value)}
    {f_law : Addr} {oc_law kV_law dc_law pm_law cd_law ct_law : Value} {od_law an_law : Option Addr} {sl_law : Array (Option Value)}
    (seer : seerB K = true)
    (a__law_mixed : PySem.W.nsIn K mainGlobals "_law_mixed" = some (some (.ref f__law_mixed))) (l__law_mixed : K.lookup f__law_mixed = some ⟨oc__law_mixed, od__law_mixed, .func (PySem.W.fnOf "_law_mixed" "_law_mixed" (defArgs s__law_mixed) (defBody s__law_mixed) (defScope s__law_mixed) .none kV__law_mixed dc__law_mixed pm__law_mixed an__law_mixed cd__law_mixed ct__law_mixed), sl__law_mixed⟩) (c__law_mixed : PySem.W.codeIn K cd__law_mixed "_law_mixed" = true) (k__law_mixed : PySem.W.keepIn K (.ref f__law_mixed) = true)
    (a__law_purse : PySem.W.nsIn K mainGlobals "_law_purse" = some (some (.ref f__law_purse))) (l__law_purse : K.lookup f__law_purse = some ⟨oc__law_purse, od__law_purse, .func (PySem.W.fnOf "_law_purse" "_law_purse" (defArgs s__law_purse) (defBody s__law_purse) (defScope s__law_purse) .none kV__law_purse dc__law_purse pm__law_purse an__law_purse cd__law_purse ct__law_purse), sl__law_purse⟩) (c__law_purse : PySem.W.codeIn K cd__law_purse "_law_purse" = true) (k__law_purse : PySem.W.keepIn K (.ref f__law_purse) = true)
    (a__law_rank : PySem.W.nsIn K mainGlobals "_law_rank" = some (some (.ref f__law_rank))) (l__law_rank : K.lookup f__law_rank = some ⟨oc__law_rank, od__law_rank, .func (PySem.W.fnOf "_law_rank" "_law_rank" (defArgs s__law_rank) (defBody s__law_rank) (defScope s__law_rank) .none kV__law_rank dc__law_rank pm__law_rank an__law_rank cd__law_rank ct__law_rank), sl__law_rank⟩) (c__law_rank : PySem.W.codeIn K cd__law_rank "_law_rank" = true) (k__law_rank : PySem.W.keepIn K (.ref f__law_rank) = true)
    (a__law_told : PySem.W.nsIn K mainGlobals "_law_told" = some (some (.ref f__law_told))) (l__law_told : K.lookup f__law_told = some ⟨oc__law_told, od__law_told, .func (PySem.W.fnOf "_law_told" "_law_told" (defArgs s__law_told) (defBody s__law_told) (defScope s__law_told) .none kV__law_told dc__law_told pm__law_told an__law_told cd__law_told ct__law_told), sl__law_told⟩) (c__law_told : PySem.W.codeIn K cd__law_told "_law_told" = true) (k__law_told : PySem.W.keepIn K (.ref f__law_told) = true)
    (a__law_take : PySem.W.nsIn K mainGlobals "_law_take" = some (some (.ref f__law_take))) (l__law_take : K.lookup f__law_take = some ⟨oc__law_take, od__law_take, .func (PySem.W.fnOf "_law_take" "_law_take" (defArgs s__law_take) (defBody s__law_take) (defScope s__law_take) .none kV__law_take dc__law_take pm__law_take an__law_take cd__law_take ct__law_take), sl__law_take⟩) (c__law_take : PySem.W.codeIn K cd__law_take "_law_take" = true) (k__law_take : PySem.W.keepIn K (.ref f__law_take) = true)
    (a__law_low : PySem.W.nsIn K mainGlobals "_law_low" = some (some (.ref f__law_low))) (l__law_low : K.lookup f__law_low = some ⟨oc__law_low, od__law_low, .func (PySem.W.fnOf "_law_low" "_law_low" (defArgs s__law_low) (defBody s__law_low) (defScope s__law_low) .none kV__law_low dc__law_low pm__law_low an__law_low cd__law_low ct__law_low), sl__law_low⟩) (c__law_low : PySem.W.codeIn K cd__law_low "_law_low" = true) (k__law_low : PySem.W.keepIn K (.ref f__law_low) = true)
    (a__law_number : PySem.W.nsIn K mainGlobals "_law_number" = some (some (.ref f__law_number))) (l__law_number : K.lookup f__law_number = some ⟨oc__law_number, od__law_number, .func (PySem.W.fnOf "_law_number" "_law_number" (defArgs s__law_number) (defBody s__law_number) (defScope s__law_number) .none kV__law_number dc__law_number pm__law_number an__law_number cd__law_number ct__law_number), sl__law_number⟩) (c__law_number : PySem.W.codeIn K cd__law_number "_law_number" = true) (k__law_number : PySem.W.keepIn K (.ref f__law_number) = true)
    (a__law_drawn : PySem.W.nsIn K mainGlobals "_law_drawn" = some (some (.ref f__law_drawn))) (l__law_drawn : K.lookup f__law_drawn = some ⟨oc__law_drawn, od__law_drawn, .func (PySem.W.fnOf "_law_drawn" "_law_drawn" (defArgs s__law_drawn) (defBody s__law_drawn) (defScope s__law_drawn) .none kV__law_drawn dc__law_drawn pm__law_drawn an__law_drawn cd__law_drawn ct__law_drawn), sl__law_drawn⟩) (c__law_drawn : PySem.W.codeIn K cd__law_drawn "_law_drawn" = true) (k__law_drawn : PySem.W.keepIn K (.ref f__law_drawn) = true)
    (a__law_at : PySem.W.nsIn K mainGlobals "_law_at" = some (some (.ref f__law_at))) (l__law_at : K.lookup f__law_at = some ⟨oc__law_at, od__law_at, .func (PySem.W.fnOf "_law_at" "_law_at" (defArgs s__law_at) (defBody s__law_at) (defScope s__law_at) .none kV__law_at dc__law_at pm__law_at an__law_at cd__law_at ct__law_at), sl__law_at⟩) (c__law_at : PySem.W.codeIn K cd__law_at "_law_at" = true) (k__law_at : PySem.W.keepIn K (.ref f__law_at) = true)
    (a__law_plus : PySem.W.nsIn K mainGlobals "_law_plus" = some (some (.ref f__law_plus))) (l__law_plus : K.lookup f__law_plus = some ⟨oc__law_plus, od__law_plus, .func (PySem.W.fnOf "_law_plus" "_law_plus" (defArgs s__law_plus) (defBody s__law_plus) (defScope s__law_plus) .none kV__law_plus dc__law_plus pm__law_plus an__law_plus cd__law_plus ct__law_plus), sl__law_plus⟩) (c__law_plus : PySem.W.codeIn K cd__law_plus "_law_plus" = true) (k__law_plus : PySem.W.keepIn K (.ref f__law_plus) = true)
    (a__law_put : PySem.W.nsIn K mainGlobals "_law_put" = some (some (.ref f__law_put))) (l__law_put : K.lookup f__law_put = some ⟨oc__law_put, od__law_put, .func (PySem.W.fnOf "_law_put" "_law_put" (defArgs s__law_put) (defBody s__law_put) (defScope s__law_put) .none kV__law_put dc__law_put pm__law_put an__law_put cd__law_put ct__law_put), sl__law_put⟩) (c__law_put : PySem.W.codeIn K cd__law_put "_law_put" = true) (k__law_put : PySem.W.keepIn K (.ref f__law_put) = true)
    (a__law_by : PySem.W.nsIn K mainGlobals "_law_by" = some (some (.ref f__law_by))) (l__law_by : K.lookup f__law_by = some ⟨oc__law_by, od__law_by, .func (PySem.W.fnOf "_law_by" "_law_by" (defArgs s__law_by) (defBody s__law_by) (defScope s__law_by) .none kV__law_by dc__law_by pm__law_by an__law_by cd__law_by ct__law_by), sl__law_by⟩) (c__law_by : PySem.W.codeIn K cd__law_by "_law_by" = true) (k__law_by : PySem.W.keepIn K (.ref f__law_by) = true)
    (a__law_joined : PySem.W.nsIn K mainGlobals "_law_joined" = some (some (.ref f__law_joined))) (l__law_joined : K.lookup f__law_joined = some ⟨oc__law_joined, od__law_joined, .func (PySem.W.fnOf "_law_joined" "_law_joined" (defArgs s__law_joined) (defBody s__law_joined) (defScope s__law_joined) .none kV__law_joined dc__law_joined pm__law_joined an__law_joined cd__law_joined ct__law_joined), sl__law_joined⟩) (c__law_joined : PySem.W.codeIn K cd__law_joined "_law_joined" = true) (k__law_joined : PySem.W.keepIn K (.ref f__law_joined) = true)
    (a__law_powers : PySem.W.nsIn K mainGlobals "_law_powers" = some (some (.ref f__law_powers))) (l__law_powers : K.lookup f__law_powers = some ⟨oc__law_powers, od__law_powers, .func (PySem.W.fnOf "_law_powers" "_law_powers" (defArgs s__law_powers) (defBody s__law_powers) (defScope s__law_powers) .none kV__law_powers dc__law_powers pm__law_powers an__law_powers cd__law_powers ct__law_powers), sl__law_powers⟩) (c__law_powers : PySem.W.codeIn K cd__law_powers "_law_powers" = true) (k__law_powers : PySem.W.keepIn K (.ref f__law_powers) = true)
    (a__law_grown : PySem.W.nsIn K mainGlobals "_law_grown" = some (some (.ref f__law_grown))) (l__law_grown : K.lookup f__law_grown = some ⟨oc__law_grown, od__law_grown, .func (PySem.W.fnOf "_law_grown" "_law_grown" (defArgs s__law_grown) (defBody s__law_grown) (defScope s__law_grown) .none kV__law_grown dc__law_grown pm__law_grown an__law_grown cd__law_grown ct__law_grown), sl__law_grown⟩) (c__law_grown : PySem.W.codeIn K cd__law_grown "_law_grown" = true) (k__law_grown : PySem.W.keepIn K (.ref f__law_grown) = true)
    (a__law_logged : PySem.W.nsIn K mainGlobals "_law_logged" = some (some (.ref f__law_logged))) (l__law_logged : K.lookup f__law_logged = some ⟨oc__law_logged, od__law_logged, .func (PySem.W.fnOf "_law_logged" "_law_logged" (defArgs s__law_logged) (defBody s__law_logged) (defScope s__law_logged) .none kV__law_logged dc__law_logged pm__law_logged an__law_logged cd__law_logged ct__law_logged), sl__law_logged⟩) (c__law_logged : PySem.W.codeIn K cd__law_logged "_law_logged" = true) (k__law_logged : PySem.W.keepIn K (.ref f__law_logged) = true)
    (a_is_whole : PySem.W.nsIn K mainGlobals "is_whole" = some (some (.ref f_is_whole))) (l_is_whole : K.lookup f_is_whole = some ⟨oc_is_whole, od_is_whole, .func (PySem.W.fnOf "is_whole" "is_whole" (defArgs s_is_whole) (defBody s_is_whole) (defScope s_is_whole) .none kV_is_whole dc_is_whole pm_is_whole an_is_whole cd_is_whole ct_is_whole), sl_is_whole⟩) (c_is_whole : PySem.W.codeIn K cd_is_whole "is_whole" = true) (k_is_whole : PySem.W.keepIn K (.ref f_is_whole) = true)
    (a_check_count : PySem.W.nsIn K mainGlobals "check_count" = some (some (.ref f_check_count))) (l_check_count : K.lookup f_check_count = some ⟨oc_check_count, od_check_count, .func (PySem.W.fnOf "check_count" "check_count" (defArgs s_check_count) (defBody s_check_count) (defScope s_check_count) .none kV_check_count dc_check_count pm_check_count an_check_count cd_check_count ct_check_count), sl_check_count⟩) (c_check_count : PySem.W.codeIn K cd_check_count "check_count" = true) (k_check_count : PySem.W.keepIn K (.ref f_check_count) = true)
    (a_is_word : PySem.W.nsIn K mainGlobals "is_word" = some (some (.ref f_is_word))) (l_is_word : K.lookup f_is_word = some ⟨oc_is_word, od_is_word, .func (PySem.W.fnOf "is_word" "is_word" (defArgs s_is_word) (defBody s_is_word) (defScope s_is_word) .none kV_is_word dc_is_word pm_is_word an_is_word cd_is_word ct_is_word), sl_is_word⟩) (c_is_word : PySem.W.codeIn K cd_is_word "is_word" = true) (k_is_word : PySem.W.keepIn K (.ref f_is_word) = true)
    (a_divisor : PySem.W.nsIn K mainGlobals "divisor" = some (some (.ref f_divisor))) (l_divisor : K.lookup f_divisor = some ⟨oc_divisor, od_divisor, .func (PySem.W.fnOf "divisor" "divisor" (defArgs s_divisor) (defBody s_divisor) (defScope s_divisor) .none kV_divisor dc_divisor pm_divisor an_divisor cd_divisor ct_divisor), sl_divisor⟩) (c_divisor : PySem.W.codeIn K cd_divisor "divisor" = true) (k_divisor : PySem.W.keepIn K (.ref f_divisor) = true)
    (a_is_number : PySem.W.nsIn K mainGlobals "is_number" = some (some (.ref f_is_number))) (l_is_number : K.lookup f_is_number = some ⟨oc_is_number, od_is_number, .func (PySem.W.fnOf "is_number" "is_number" (defArgs s_is_number) (defBody s_is_number) (defScope s_is_number) .none kV_is_number dc_is_number pm_is_number an_is_number cd_is_number ct_is_number), sl_is_number⟩) (c_is_number : PySem.W.codeIn K cd_is_number "is_number" = true) (k_is_number : PySem.W.keepIn K (.ref f_is_number) = true)
    (a_is_term : PySem.W.nsIn K mainGlobals "is_term" = some (some (.ref f_is_term))) (l_is_term : K.lookup f_is_term = some ⟨oc_is_term, od_is_term, .func (PySem.W.fnOf "is_term" "is_term" (defArgs s_is_term) (defBody s_is_term) (defScope s_is_term) .none kV_is_term dc_is_term pm_is_term an_is_term cd_is_term ct_is_term), sl_is_term⟩) (c_is_term : PySem.W.codeIn K cd_is_term "is_term" = true) (k_is_term : PySem.W.keepIn K (.ref f_is_term) = true)
    (a_rank : PySem.W.nsIn K mainGlobals "rank" = some (some (.ref f_rank))) (l_rank : K.lookup f_rank = some ⟨oc_rank, od_rank, .func (PySem.W.fnOf "rank" "rank" (defArgs s_rank) (defBody s_rank) (defScope s_rank) .none kV_rank dc_rank pm_rank an_rank cd_rank ct_rank), sl_rank⟩) (c_rank : PySem.W.codeIn K cd_rank "rank" = true) (k_rank : PySem.W.keepIn K (.ref f_rank) = true)
    (a_check_sum : PySem.W.nsIn K mainGlobals "check_sum" = some (some (.ref f_check_sum))) (l_check_sum : K.lookup f_check_sum = some ⟨oc_check_sum, od_check_sum, .func (PySem.W.fnOf "check_sum" "check_sum" (defArgs s_check_sum) (defBody s_check_sum) (defScope s_check_sum) .none kV_check_sum dc_check_sum pm_check_sum an_check_sum cd_check_sum ct_check_sum), sl_check_sum⟩) (c_check_sum : PySem.W.codeIn K cd_check_sum "check_sum" = true) (k_check_sum : PySem.W.keepIn K (.ref f_check_sum) = true)
    (a_told_sum : PySem.W.nsIn K mainGlobals "told_sum" = some (some (.ref f_told_sum))) (l_told_sum : K.lookup f_told_sum = some ⟨oc_told_sum, od_told_sum, .func (PySem.W.fnOf "told_sum" "told_sum" (defArgs s_told_sum) (defBody s_told_sum) (defScope s_told_sum) .none kV_told_sum dc_told_sum pm_told_sum an_told_sum cd_told_sum ct_told_sum), sl_told_sum⟩) (c_told_sum : PySem.W.codeIn K cd_told_sum "told_sum" = true) (k_told_sum : PySem.W.keepIn K (.ref f_told_sum) = true)
    (a_lowest : PySem.W.nsIn K mainGlobals "lowest" = some (some (.ref f_lowest))) (l_lowest : K.lookup f_lowest = some ⟨oc_lowest, od_lowest, .func (PySem.W.fnOf "lowest" "lowest" (defArgs s_lowest) (defBody s_lowest) (defScope s_lowest) .none kV_lowest dc_lowest pm_lowest an_lowest cd_lowest ct_lowest), sl_lowest⟩) (c_lowest : PySem.W.codeIn K cd_lowest "lowest" = true) (k_lowest : PySem.W.keepIn K (.ref f_lowest) = true)
    (a_plus : PySem.W.nsIn K mainGlobals "plus" = some (some (.ref f_plus))) (l_plus : K.lookup f_plus = some ⟨oc_plus, od_plus, .func (PySem.W.fnOf "plus" "plus" (defArgs s_plus) (defBody s_plus) (defScope s_plus) .none kV_plus dc_plus pm_plus an_plus cd_plus ct_plus), sl_plus⟩) (c_plus : PySem.W.codeIn K cd_plus "plus" = true) (k_plus : PySem.W.keepIn K (.ref f_plus) = true)
    (a_put_to : PySem.W.nsIn K mainGlobals "put_to" = some (some (.ref f_put_to))) (l_put_to : K.lookup f_put_to = some ⟨oc_put_to, od_put_to, .func (PySem.W.fnOf "put_to" "put_to" (defArgs s_put_to) (defBody s_put_to) (defScope s_put_to) .none kV_put_to dc_put_to pm_put_to an_put_to cd_put_to ct_put_to), sl_put_to⟩) (c_put_to : PySem.W.codeIn K cd_put_to "put_to" = true) (k_put_to : PySem.W.keepIn K (.ref f_put_to) = true)
    (a_times : PySem.W.nsIn K mainGlobals "times" = some (some (.ref f_times))) (l_times : K.lookup f_times = some ⟨oc_times, od_times, .func (PySem.W.fnOf "times" "times" (defArgs s_times) (defBody s_times) (defScope s_times) .none kV_times dc_times pm_times an_times cd_times ct_times), sl_times⟩) (c_times : PySem.W.codeIn K cd_times "times" = true) (k_times : PySem.W.keepIn K (.ref f_times) = true)
    (a_joined_short : PySem.W.nsIn K mainGlobals "joined_short" = some (some (.ref f_joined_short))) (l_joined_short : K.lookup f_joined_short = some ⟨oc_joined_short, od_joined_short, .func (PySem.W.fnOf "joined_short" "joined_short" (defArgs s_joined_short) (defBody s_joined_short) (defScope s_joined_short) .none kV_joined_short dc_joined_short pm_joined_short an_joined_short cd_joined_short ct_joined_short), sl_joined_short⟩) (c_joined_short : PySem.W.codeIn K cd_joined_short "joined_short" = true) (k_joined_short : PySem.W.keepIn K (.ref f_joined_short) = true)
    (a_added_up : PySem.W.nsIn K mainGlobals "added_up" = some (some (.ref f_added_up))) (l_added_up : K.lookup f_added_up = some ⟨oc_added_up, od_added_up, .func (PySem.W.fnOf "added_up" "added_up" (defArgs s_added_up) (defBody s_added_up) (defScope s_added_up) .none kV_added_up dc_added_up pm_added_up an_added_up cd_added_up ct_added_up), sl_added_up⟩) (c_added_up : PySem.W.codeIn K cd_added_up "added_up" = true) (k_added_up : PySem.W.keepIn K (.ref f_added_up) = true)
    (a_fraction : PySem.W.nsIn K mainGlobals "fraction" = some (some (.ref f_fraction))) (l_fraction : K.lookup f_fraction = some ⟨oc_fraction, od_fraction, .func (PySem.W.fnOf "fraction" "fraction" (defArgs s_fraction) (defBody s_fraction) (defScope s_fraction) .none kV_fraction dc_fraction pm_fraction an_fraction cd_fraction ct_fraction), sl_fraction⟩) (c_fraction : PySem.W.codeIn K cd_fraction "fraction" = true) (k_fraction : PySem.W.keepIn K (.ref f_fraction) = true)
    (a_grown_short : PySem.W.nsIn K mainGlobals "grown_short" = some (some (.ref f_grown_short))) (l_grown_short : K.lookup f_grown_short = some ⟨oc_grown_short, od_grown_short, .func (PySem.W.fnOf "grown_short" "grown_short" (defArgs s_grown_short) (defBody s_grown_short) (defScope s_grown_short) .none kV_grown_short dc_grown_short pm_grown_short an_grown_short cd_grown_short ct_grown_short), sl_grown_short⟩) (c_grown_short : PySem.W.codeIn K cd_grown_short "grown_short" = true) (k_grown_short : PySem.W.keepIn K (.ref f_grown_short) = true)
    (a_gathered : PySem.W.nsIn K mainGlobals "gathered" = some (some (.ref f_gathered))) (l_gathered : K.lookup f_gathered = some ⟨oc_gathered, od_gathered, .func (PySem.W.fnOf "gathered" "gathered" (defArgs s_gathered) (defBody s_gathered) (defScope s_gathered) .none kV_gathered dc_gathered pm_gathered an_gathered cd_gathered ct_gathered), sl_gathered⟩) (c_gathered : PySem.W.codeIn K cd_gathered "gathered" = true) (k_gathered : PySem.W.keepIn K (.ref f_gathered) = true)
    (a_grown : PySem.W.nsIn K mainGlobals "grown" = some (some (.ref f_grown))) (l_grown : K.lookup f_grown = some ⟨oc_grown, od_grown, .func (PySem.W.fnOf "grown" "grown" (defArgs s_grown) (defBody s_grown) (defScope s_grown) .none kV_grown dc_grown pm_grown an_grown cd_grown ct_grown), sl_grown⟩) (c_grown : PySem.W.codeIn K cd_grown "grown" = true) (k_grown : PySem.W.keepIn K (.ref f_grown) = true)
    (a_logged_short : PySem.W.nsIn K mainGlobals "logged_short" = some (some (.ref f_logged_short))) (l_logged_short : K.lookup f_logged_short = some ⟨oc_logged_short, od_logged_short, .func (PySem.W.fnOf "logged_short" "logged_short" (defArgs s_logged_short) (defBody s_logged_short) (defScope s_logged_short) .none kV_logged_short dc_logged_short pm_logged_short an_logged_short cd_logged_short ct_logged_short), sl_logged_short⟩) (c_logged_short : PySem.W.codeIn K cd_logged_short "logged_short" = true) (k_logged_short : PySem.W.keepIn K (.ref f_logged_short) = true)
    (a_logged : PySem.W.nsIn K mainGlobals "logged" = some (some (.ref f_logged))) (l_logged : K.lookup f_logged = some ⟨oc_logged, od_logged, .func (PySem.W.fnOf "logged" "logged" (defArgs s_logged) (defBody s_logged) (defScope s_logged) .none kV_logged dc_logged pm_logged an_logged cd_logged ct_logged), sl_logged⟩) (c_logged : PySem.W.codeIn K cd_logged "logged" = true) (k_logged : PySem.W.keepIn K (.ref f_logged) = true)
    (a_law : PySem.W.nsIn K mainGlobals "law" = some (some (.ref f_law))) (l_law : K.lookup f_law = some ⟨oc_law, od_law, .func (PySem.W.fnOf "law" "law" (defArgs s_law) (defBody s_law) (defScope s_law) .none kV_law dc_law pm_law an_law cd_law ct_law), sl_law⟩) (c_law : PySem.W.codeIn K cd_law "law" = true) (k_law : PySem.W.keepIn K (.ref f_law) = true)
    (z_abs : PySem.W.nsIn K mainGlobals "abs" = some none)
    (z_bool : PySem.W.nsIn K mainGlobals "bool" = some none)
    (z_dict : PySem.W.nsIn K mainGlobals "dict" = some none)
    (z_enumerate : PySem.W.nsIn K mainGlobals "enumerate" = some none)
    (z_int : PySem.W.nsIn K mainGlobals "int" = some none)
    (z_isinstance : PySem.W.nsIn K mainGlobals "isinstance" = some none)
    (z_len : PySem.W.nsIn K mainGlobals "len" = some none)
    (z_list : PySem.W.nsIn K mainGlobals "list" = some none)
    (z_range : PySem.W.nsIn K mainGlobals "range" = some none)
    (z_sorted : PySem.W.nsIn K mainGlobals "sorted" = some none)
    (z_str : PySem.W.nsIn K mainGlobals "str" = some none)
    (z_tuple : PySem.W.nsIn K mainGlobals "tuple" = some none)
    (y_MOST : Konst K mg "MOST" k_MOST)
    (y_MOST_LETTERS : Konst K mg "MOST_LETTERS" k_MOST_LETTERS)
    (y_NOUGHT : Konst K mg "NOUGHT" k_NOUGHT)
    (y_ONE : Konst K mg "ONE" k_ONE) :
    ∃ fd : FuncData, (∀ (s : Shared) (v : Value), BindsTo s fd ⟨[v], []⟩ [("_law_script", v)]) ∧ ∀ base : Heap, K.In base → base.Ns mainGlobals mg → FnG l.prog w K mg base 42 fa fd ["_law_script"] (specL K m_law) := by
  have e := hfa.symm.trans (PySem.W.mg_of X G a_law)
  cases e
  have F__law_mixed := fun_mk (st := s__law_mixed) l__law_mixed c__law_mixed k__law_mixed
  have F__law_purse := fun_mk (st := s__law_purse) l__law_purse c__law_purse k__law_purse
  have F__law_rank := fun_mk (st := s__law_rank) l__law_rank c__law_rank k__law_rank
  have F__law_told := fun_mk (st := s__law_told) l__law_told c__law_told k__law_told
  have F__law_take := fun_mk (st := s__law_take) l__law_take c__law_take k__law_take
  have F__law_low := fun_mk (st := s__law_low) l__law_low c__law_low k__law_low
  have F__law_number := fun_mk (st := s__law_number) l__law_number c__law_number k__law_number
  have F__law_drawn := fun_mk (st := s__law_drawn) l__law_drawn c__law_drawn k__law_drawn
  have F__law_at := fun_mk (st := s__law_at) l__law_at c__law_at k__law_at
  have F__law_plus := fun_mk (st := s__law_plus) l__law_plus c__law_plus k__law_plus
  have F__law_put := fun_mk (st := s__law_put) l__law_put c__law_put k__law_put
  have F__law_by := fun_mk (st := s__law_by) l__law_by c__law_by k__law_by
  have F__law_joined := fun_mk (st := s__law_joined) l__law_joined c__law_joined k__law_joined
  have F__law_powers := fun_mk (st := s__law_powers) l__law_powers c__law_powers k__law_powers
  have F__law_grown := fun_mk (st := s__law_grown) l__law_grown c__law_grown k__law_grown
  have F__law_logged := fun_mk (st := s__law_logged) l__law_logged c__law_logged k__law_logged
  have F_is_whole := fun_mk (st := s_is_whole) l_is_whole c_is_whole k_is_whole
  have F_check_count := fun_mk (st := s_check_count) l_check_count c_check_count k_check_count
  have F_is_word := fun_mk (st := s_is_word) l_is_word c_is_word k_is_word
  have F_divisor := fun_mk (st := s_divisor) l_divisor c_divisor k_divisor
  have F_is_number := fun_mk (st := s_is_number) l_is_number c_is_number k_is_number
  have F_is_term := fun_mk (st := s_is_term) l_is_term c_is_term k_is_term
  have F_rank := fun_mk (st := s_rank) l_rank c_rank k_rank
  have F_check_sum := fun_mk (st := s_check_sum) l_check_sum c_check_sum k_check_sum
  have F_told_sum := fun_mk (st := s_told_sum) l_told_sum c_told_sum k_told_sum
  have F_lowest := fun_mk (st := s_lowest) l_lowest c_lowest k_lowest
  have F_plus := fun_mk (st := s_plus) l_plus c_plus k_plus
  have F_put_to := fun_mk (st := s_put_to) l_put_to c_put_to k_put_to
  have F_times := fun_mk (st := s_times) l_times c_times k_times
  have F_joined_short := fun_mk (st := s_joined_short) l_joined_short c_joined_short k_joined_short
  have F_added_up := fun_mk (st := s_added_up) l_added_up c_added_up k_added_up
  have F_fraction := fun_mk (st := s_fraction) l_fraction c_fraction k_fraction
  have F_grown_short := fun_mk (st := s_grown_short) l_grown_short c_grown_short k_grown_short
  have F_gathered := fun_mk (st := s_gathered) l_gathered c_gathered k_gathered
  have F_grown := fun_mk (st := s_grown) l_grown c_grown k_grown
  have F_logged_short := fun_mk (st := s_logged_short) l_logged_short c_logged_short k_logged_short
  have F_logged := fun_mk (st := s_logged) l_logged c_logged k_logged
  have F_law := fun_mk (st := s_law) l_law c_law k_law
  have b__law_mixed := F__law_mixed.binds (ps := ["_law_cell", "_law_k"]) fun _ _ _ _ _ _ us hl => match us, hl with | [_, _], _ => rfl
  have b__law_purse := F__law_purse.binds (ps := ["_law_cell", "_law_k"]) fun _ _ _ _ _ _ us hl => match us, hl with | [_, _], _ => rfl
  have b__law_rank := F__law_rank.binds (ps := ["_law_word"]) fun _ _ _ _ _ _ us hl => match us, hl with | [_], _ => rfl
  have b__law_told := F__law_told.binds (ps := ["_law_found"]) fun _ _ _ _ _ _ us hl => match us, hl with | [_], _ => rfl
  have b__law_take := F__law_take.binds (ps := ["_law_purse_here", "_law_many"]) fun _ _ _ _ _ _ us hl => match us, hl with | [_, _], _ => rfl
  have b__law_low := F__law_low.binds (ps := ["_law_top", "_law_bottom"]) fun _ _ _ _ _ _ us hl => match us, hl with | [_, _], _ => rfl
  have b__law_number := F__law_number.binds (ps := ["_law_purse_here"]) fun _ _ _ _ _ _ us hl => match us, hl with | [_], _ => rfl
  have b__law_drawn := F__law_drawn.binds (ps := ["_law_purse_here", "_law_count"]) fun _ _ _ _ _ _ us hl => match us, hl with | [_, _], _ => rfl
  have b__law_at := F__law_at.binds (ps := ["_law_script", "_law_k"]) fun _ _ _ _ _ _ us hl => match us, hl with | [_, _], _ => rfl
  have b__law_plus := F__law_plus.binds (ps := ["_law_one", "_law_other"]) fun _ _ _ _ _ _ us hl => match us, hl with | [_, _], _ => rfl
  have b__law_put := F__law_put.binds (ps := ["_law_found", "_law_word", "_law_number_here"]) fun _ _ _ _ _ _ us hl => match us, hl with | [_, _, _], _ => rfl
  have b__law_by := F__law_by.binds (ps := ["_law_one", "_law_other"]) fun _ _ _ _ _ _ us hl => match us, hl with | [_, _], _ => rfl
  have b__law_joined := F__law_joined.binds (ps := ["_law_one", "_law_other"]) fun _ _ _ _ _ _ us hl => match us, hl with | [_, _], _ => rfl
  have b__law_powers := F__law_powers.binds (ps := ["_law_total", "_law_shares"]) fun _ _ _ _ _ _ us hl => match us, hl with | [_, _], _ => rfl
  have b__law_grown := F__law_grown.binds (ps := ["_law_total"]) fun _ _ _ _ _ _ us hl => match us, hl with | [_], _ => rfl
  have b__law_logged := F__law_logged.binds (ps := ["_law_total"]) fun _ _ _ _ _ _ us hl => match us, hl with | [_], _ => rfl
  have b_is_whole := F_is_whole.binds (ps := ["one"]) fun _ _ _ _ _ _ us hl => match us, hl with | [_], _ => rfl
  have b_check_count := F_check_count.binds (ps := ["count"]) fun _ _ _ _ _ _ us hl => match us, hl with | [_], _ => rfl
  have b_is_word := F_is_word.binds (ps := ["word", "count"]) fun _ _ _ _ _ _ us hl => match us, hl with | [_, _], _ => rfl
  have b_divisor := F_divisor.binds (ps := ["one", "other"]) fun _ _ _ _ _ _ us hl => match us, hl with | [_, _], _ => rfl
  have b_is_number := F_is_number.binds (ps := ["one"]) fun _ _ _ _ _ _ us hl => match us, hl with | [_], _ => rfl
  have b_is_term := F_is_term.binds (ps := ["told", "count"]) fun _ _ _ _ _ _ us hl => match us, hl with | [_, _], _ => rfl
  have b_rank := F_rank.binds (ps := ["word"]) fun _ _ _ _ _ _ us hl => match us, hl with | [_], _ => rfl
  have b_check_sum := F_check_sum.binds (ps := ["count", "total"]) fun _ _ _ _ _ _ us hl => match us, hl with | [_, _], _ => rfl
  have b_told_sum := F_told_sum.binds (ps := ["numbers"]) fun _ _ _ _ _ _ us hl => match us, hl with | [_], _ => rfl
  have b_lowest := F_lowest.binds (ps := ["top", "bottom"]) fun _ _ _ _ _ _ us hl => match us, hl with | [_, _], _ => rfl
  have b_plus := F_plus.binds (ps := ["one", "other"]) fun _ _ _ _ _ _ us hl => match us, hl with | [_, _], _ => rfl
  have b_put_to := F_put_to.binds (ps := ["numbers", "word", "number"]) fun _ _ _ _ _ _ us hl => match us, hl with | [_, _, _], _ => rfl
  have b_times := F_times.binds (ps := ["one", "other"]) fun _ _ _ _ _ _ us hl => match us, hl with | [_, _], _ => rfl
  have b_joined_short := F_joined_short.binds (ps := ["one", "other", "most"]) fun _ _ _ _ _ _ us hl => match us, hl with | [_, _, _], _ => rfl
  have b_added_up := F_added_up.binds (ps := ["total", "shares", "most"]) fun _ _ _ _ _ _ us hl => match us, hl with | [_, _, _], _ => rfl
  have b_fraction := F_fraction.binds (ps := ["top", "bottom"]) fun _ _ _ _ _ _ us hl => match us, hl with | [_, _], _ => rfl
  have b_grown_short := F_grown_short.binds (ps := ["total", "most"]) fun _ _ _ _ _ _ us hl => match us, hl with | [_, _], _ => rfl
  have b_gathered := F_gathered.binds (ps := ["total"]) fun _ _ _ _ _ _ us hl => match us, hl with | [_], _ => rfl
  have b_grown := F_grown.binds (ps := ["count", "total"]) fun _ _ _ _ _ _ us hl => match us, hl with | [_, _], _ => rfl
  have b_logged_short := F_logged_short.binds (ps := ["total", "most"]) fun _ _ _ _ _ _ us hl => match us, hl with | [_, _], _ => rfl
  have b_logged := F_logged.binds (ps := ["count", "total"]) fun _ _ _ _ _ _ us hl => match us, hl with | [_, _], _ => rfl
  have b_law := F_law.binds (ps := ["_law_script"]) fun _ _ _ _ _ _ us hl => match us, hl with | [_], _ => rfl
  refine ⟨PySem.W.fnOf "law" "law" (defArgs s_law) (defBody s_law) (defScope s_law) .none kV_law dc_law pm_law an_law cd_law ct_law, fun s v => .of_eq rfl, fun base _ _ => (@ok_law l.prog w K mg base {
    seer := seer, tree := tree,
    a__law_mixed := _, d__law_mixed := _, F__law_mixed := F__law_mixed, g__law_mixed := PySem.W.mg_of X G a__law_mixed, k__law_mixed := k__law_mixed, b__law_mixed := b__law_mixed,
    a__law_purse := _, d__law_purse := _, F__law_purse := F__law_purse, g__law_purse := PySem.W.mg_of X G a__law_purse, k__law_purse := k__law_purse, b__law_purse := b__law_purse,
    a__law_rank := _, d__law_rank := _, F__law_rank := F__law_rank, g__law_rank := PySem.W.mg_of X G a__law_rank, k__law_rank := k__law_rank, b__law_rank := b__law_rank,
    a__law_told := _, d__law_told := _, F__law_told := F__law_told, g__law_told := PySem.W.mg_of X G a__law_told, k__law_told := k__law_told, b__law_told := b__law_told,
    a__law_take := _, d__law_take := _, F__law_take := F__law_take, g__law_take := PySem.W.mg_of X G a__law_take, k__law_take := k__law_take, b__law_take := b__law_take,
    a__law_low := _, d__law_low := _, F__law_low := F__law_low, g__law_low := PySem.W.mg_of X G a__law_low, k__law_low := k__law_low, b__law_low := b__law_low,
    a__law_number := _, d__law_number := _, F__law_number := F__law_number, g__law_number := PySem.W.mg_of X G a__law_number, k__law_number := k__law_number, b__law_number := b__law_number,
    a__law_drawn := _, d__law_drawn := _, F__law_drawn := F__law_drawn, g__law_drawn := PySem.W.mg_of X G a__law_drawn, k__law_drawn := k__law_drawn, b__law_drawn := b__law_drawn,
    a__law_at := _, d__law_at := _, F__law_at := F__law_at, g__law_at := PySem.W.mg_of X G a__law_at, k__law_at := k__law_at, b__law_at := b__law_at,
    a__law_plus := _, d__law_plus := _, F__law_plus := F__law_plus, g__law_plus := PySem.W.mg_of X G a__law_plus, k__law_plus := k__law_plus, b__law_plus := b__law_plus,
    a__law_put := _, d__law_put := _, F__law_put := F__law_put, g__law_put := PySem.W.mg_of X G a__law_put, k__law_put := k__law_put, b__law_put := b__law_put,
    a__law_by := _, d__law_by := _, F__law_by := F__law_by, g__law_by := PySem.W.mg_of X G a__law_by, k__law_by := k__law_by, b__law_by := b__law_by,
    a__law_joined := _, d__law_joined := _, F__law_joined := F__law_joined, g__law_joined := PySem.W.mg_of X G a__law_joined, k__law_joined := k__law_joined, b__law_joined := b__law_joined,
    a__law_powers := _, d__law_powers := _, F__law_powers := F__law_powers, g__law_powers := PySem.W.mg_of X G a__law_powers, k__law_powers := k__law_powers, b__law_powers := b__law_powers,
    a__law_grown := _, d__law_grown := _, F__law_grown := F__law_grown, g__law_grown := PySem.W.mg_of X G a__law_grown, k__law_grown := k__law_grown, b__law_grown := b__law_grown,
    a__law_logged := _, d__law_logged := _, F__law_logged := F__law_logged, g__law_logged := PySem.W.mg_of X G a__law_logged, k__law_logged := k__law_logged, b__law_logged := b__law_logged,
    a_is_whole := _, d_is_whole := _, F_is_whole := F_is_whole, g_is_whole := PySem.W.mg_of X G a_is_whole, k_is_whole := k_is_whole, b_is_whole := b_is_whole,
    a_check_count := _, d_check_count := _, F_check_count := F_check_count, g_check_count := PySem.W.mg_of X G a_check_count, k_check_count := k_check_count, b_check_count := b_check_count,
    a_is_word := _, d_is_word := _, F_is_word := F_is_word, g_is_word := PySem.W.mg_of X G a_is_word, k_is_word := k_is_word, b_is_word := b_is_word,
    a_divisor := _, d_divisor := _, F_divisor := F_divisor, g_divisor := PySem.W.mg_of X G a_divisor, k_divisor := k_divisor, b_divisor := b_divisor,
    a_is_number := _, d_is_number := _, F_is_number := F_is_number, g_is_number := PySem.W.mg_of X G a_is_number, k_is_number := k_is_number, b_is_number := b_is_number,
    a_is_term := _, d_is_term := _, F_is_term := F_is_term, g_is_term := PySem.W.mg_of X G a_is_term, k_is_term := k_is_term, b_is_term := b_is_term,
    a_rank := _, d_rank := _, F_rank := F_rank, g_rank := PySem.W.mg_of X G a_rank, k_rank := k_rank, b_rank := b_rank,
    a_check_sum := _, d_check_sum := _, F_check_sum := F_check_sum, g_check_sum := PySem.W.mg_of X G a_check_sum, k_check_sum := k_check_sum, b_check_sum := b_check_sum,
    a_told_sum := _, d_told_sum := _, F_told_sum := F_told_sum, g_told_sum := PySem.W.mg_of X G a_told_sum, k_told_sum := k_told_sum, b_told_sum := b_told_sum,
    a_lowest := _, d_lowest := _, F_lowest := F_lowest, g_lowest := PySem.W.mg_of X G a_lowest, k_lowest := k_lowest, b_lowest := b_lowest,
    a_plus := _, d_plus := _, F_plus := F_plus, g_plus := PySem.W.mg_of X G a_plus, k_plus := k_plus, b_plus := b_plus,
    a_put_to := _, d_put_to := _, F_put_to := F_put_to, g_put_to := PySem.W.mg_of X G a_put_to, k_put_to := k_put_to, b_put_to := b_put_to,
    a_times := _, d_times := _, F_times := F_times, g_times := PySem.W.mg_of X G a_times, k_times := k_times, b_times := b_times,
    a_joined_short := _, d_joined_short := _, F_joined_short := F_joined_short, g_joined_short := PySem.W.mg_of X G a_joined_short, k_joined_short := k_joined_short, b_joined_short := b_joined_short,
    a_added_up := _, d_added_up := _, F_added_up := F_added_up, g_added_up := PySem.W.mg_of X G a_added_up, k_added_up := k_added_up, b_added_up := b_added_up,
    a_fraction := _, d_fraction := _, F_fraction := F_fraction, g_fraction := PySem.W.mg_of X G a_fraction, k_fraction := k_fraction, b_fraction := b_fraction,
    a_grown_short := _, d_grown_short := _, F_grown_short := F_grown_short, g_grown_short := PySem.W.mg_of X G a_grown_short, k_grown_short := k_grown_short, b_grown_short := b_grown_short,
    a_gathered := _, d_gathered := _, F_gathered := F_gathered, g_gathered := PySem.W.mg_of X G a_gathered, k_gathered := k_gathered, b_gathered := b_gathered,
    a_grown := _, d_grown := _, F_grown := F_grown, g_grown := PySem.W.mg_of X G a_grown, k_grown := k_grown, b_grown := b_grown,
    a_logged_short := _, d_logged_short := _, F_logged_short := F_logged_short, g_logged_short := PySem.W.mg_of X G a_logged_short, k_logged_short := k_logged_short, b_logged_short := b_logged_short,
    a_logged := _, d_logged := _, F_logged := F_logged, g_logged := PySem.W.mg_of X G a_logged, k_logged := k_logged, b_logged := b_logged,
    a_law := _, d_law := _, F_law := F_law, g_law := PySem.W.mg_of X G a_law, k_law := k_law, b_law := b_law,
    z_abs := PySem.W.mg_none_of X G z_abs,
    z_bool := PySem.W.mg_none_of X G z_bool,
    z_dict := PySem.W.mg_none_of X G z_dict,
    z_enumerate := PySem.W.mg_none_of X G z_enumerate,
    z_int := PySem.W.mg_none_of X G z_int,
    z_isinstance := PySem.W.mg_none_of X G z_isinstance,
    z_len := PySem.W.mg_none_of X G z_len,
    z_list := PySem.W.mg_none_of X G z_list,
    z_range := PySem.W.mg_none_of X G z_range,
    z_sorted := PySem.W.mg_none_of X G z_sorted,
    z_str := PySem.W.mg_none_of X G z_str,
    z_tuple := PySem.W.mg_none_of X G z_tuple,
    c_MOST := y_MOST,
    c_MOST_LETTERS := y_MOST_LETTERS,
    c_NOUGHT := y_NOUGHT,
    c_ONE := y_ONE }).imp specL_imp⟩
theorem facts {w : World} {K : PySem.W.Frag} {h : Heap} {mg : Str → Option Value} {fa : Addr} (X : K.In h) (G : h.Ns mainGlobals mg) (hfa : mg "law" = some (.ref fa)) (c : SaysS fk fns K) :
    ∃ fd : FuncData, (∀ (s : Shared) (v : Value), BindsTo s fd ⟨[v], []⟩ [("_law_script", v)]) ∧ ∀ base : Heap, K.In base → base.Ns mainGlobals mg → FnG PySem.Challenge.rw_swaprest_k58_grown_and_logged_sums.prog w K mg base 42 fa fd ["_law_script"] (specL K m_law) := by
  have hf := c.fkt
  unfold fk at hf
  simp only [Bool.and_eq_true] at hf
  obtain ⟨q0, q1, q2, q3⟩ := hf
  obtain ⟨h_seer, h_a__law_mixed, h_k__law_mixed, h_a__law_purse, h_k__law_purse, h_a__law_rank, h_k__law_rank, h_a__law_told, h_k__law_told, h_a__law_take, h_k__law_take, h_a__law_low, h_k__law_low, h_a__law_number, h_k__law_number, h_a__law_drawn, h_k__law_drawn, h_a__law_at, h_k__law_at, h_a__law_plus, h_k__law_plus, h_a__law_put, h_k__law_put, h_a__law_by, h_k__law_by, _⟩ := (of_decide_eq_true q0 : P0 K)
  obtain ⟨h_a__law_joined, h_k__law_joined, h_a__law_powers, h_k__law_powers, h_a__law_grown, h_k__law_grown, h_a__law_logged, h_k__law_logged, h_a_is_whole, h_k_is_whole, h_a_check_count, h_k_check_count, h_a_is_word, h_k_is_word, h_a_divisor, h_k_divisor, h_a_is_number, h_k_is_number, h_a_is_term, h_k_is_term, h_a_rank, h_k_rank, h_a_check_sum, h_k_check_sum, h_a_told_sum, _⟩ := (of_decide_eq_true q1 : P1 K)
  obtain ⟨h_k_told_sum, h_a_lowest, h_k_lowest, h_a_plus, h_k_plus, h_a_put_to, h_k_put_to, h_a_times, h_k_times, h_a_joined_short, h_k_joined_short, h_a_added_up, h_k_added_up, h_a_fraction, h_k_fraction, h_a_grown_short, h_k_grown_short, h_a_gathered, h_k_gathered, h_a_grown, h_k_grown, h_a_logged_short, h_k_logged_short, h_a_logged, h_k_logged, _⟩ := (of_decide_eq_true q2 : P2 K)
  obtain ⟨h_a_law, h_k_law, h_z_abs, h_z_bool, h_z_dict, h_z_enumerate, h_z_int, h_z_isinstance, h_z_len, h_z_list, h_z_range, h_z_sorted, h_z_str, h_z_tuple, h_y_MOST, h_y_MOST_LETTERS, h_y_NOUGHT__a, h_y_NOUGHT, h_y_ONE__a, h_y_ONE, _⟩ := (of_decide_eq_true q3 : P3 K)
  obtain ⟨_, _, _, _, _, _, _, _, _, l__law_mixed, c__law_mixed⟩ := c.def_ 0 (d := D__law_mixed) rfl
  obtain ⟨_, _, _, _, _, _, _, _, _, l__law_purse, c__law_purse⟩ := c.def_ 1 (d := D__law_purse) rfl
  obtain ⟨_, _, _, _, _, _, _, _, _, l__law_rank, c__law_rank⟩ := c.def_ 2 (d := D__law_rank) rfl
  obtain ⟨_, _, _, _, _, _, _, _, _, l__law_told, c__law_told⟩ := c.def_ 3 (d := D__law_told) rfl
  obtain ⟨_, _, _, _, _, _, _, _, _, l__law_take, c__law_take⟩ := c.def_ 4 (d := D__law_take) rfl
  obtain ⟨_, _, _, _, _, _, _, _, _, l__law_low, c__law_low⟩ := c.def_ 5 (d := D__law_low) rfl
  obtain ⟨_, _, _, _, _, _, _, _, _, l__law_number, c__law_number⟩ := c.def_ 6 (d := D__law_number) rfl
  obtain ⟨_, _, _, _, _, _, _, _, _, l__law_drawn, c__law_drawn⟩ := c.def_ 7 (d := D__law_drawn) rfl
  obtain ⟨_, _, _, _, _, _, _, _, _, l__law_at, c__law_at⟩ := c.def_ 8 (d := D__law_at) rfl
  obtain ⟨_, _, _, _, _, _, _, _, _, l__law_plus, c__law_plus⟩ := c.def_ 9 (d := D__law_plus) rfl
  obtain ⟨_, _, _, _, _, _, _, _, _, l__law_put, c__law_put⟩ := c.def_ 10 (d := D__law_put) rfl
  obtain ⟨_, _, _, _, _, _, _, _, _, l__law_by, c__law_by⟩ := c.def_ 11 (d := D__law_by) rfl
  obtain ⟨_, _, _, _, _, _, _, _, _, l__law_joined, c__law_joined⟩ := c.def_ 12 (d := D__law_joined) rfl
  obtain ⟨_, _, _, _, _, _, _, _, _, l__law_powers, c__law_powers⟩ := c.def_ 13 (d := D__law_powers) rfl
  obtain ⟨_, _, _, _, _, _, _, _, _, l__law_grown, c__law_grown⟩ := c.def_ 14 (d := D__law_grown) rfl
  obtain ⟨_, _, _, _, _, _, _, _, _, l__law_logged, c__law_logged⟩ := c.def_ 15 (d := D__law_logged) rfl
  obtain ⟨_, _, _, _, _, _, _, _, _, l_is_whole, c_is_whole⟩ := c.def_ 16 (d := D_is_whole) rfl
  obtain ⟨_, _, _, _, _, _, _, _, _, l_check_count, c_check_count⟩ := c.def_ 17 (d := D_check_count) rfl
  obtain ⟨_, _, _, _, _, _, _, _, _, l_is_word, c_is_word⟩ := c.def_ 18 (d := D_is_word) rfl
  obtain ⟨_, _, _, _, _, _, _, _, _, l_divisor, c_divisor⟩ := c.def_ 19 (d := D_divisor) rfl
  obtain ⟨_, _, _, _, _, _, _, _, _, l_is_number, c_is_number⟩ := c.def_ 20 (d := D_is_number) rfl
  obtain ⟨_, _, _, _, _, _, _, _, _, l_is_term, c_is_term⟩ := c.def_ 21 (d := D_is_term) rfl
  obtain ⟨_, _, _, _, _, _, _, _, _, l_rank, c_rank⟩ := c.def_ 22 (d := D_rank) rfl
  obtain ⟨_, _, _, _, _, _, _, _, _, l_check_sum, c_check_sum⟩ := c.def_ 23 (d := D_check_sum) rfl
  obtain ⟨_, _, _, _, _, _, _, _, _, l_told_sum, c_told_sum⟩ := c.def_ 24 (d := D_told_sum) rfl
  obtain ⟨_, _, _, _, _, _, _, _, _, l_lowest, c_lowest⟩ := c.def_ 25 (d := D_lowest) rfl
  obtain ⟨_, _, _, _, _, _, _, _, _, l_plus, c_plus⟩ := c.def_ 26 (d := D_plus) rfl
  obtain ⟨_, _, _, _, _, _, _, _, _, l_put_to, c_put_to⟩ := c.def_ 27 (d := D_put_to) rfl
  obtain ⟨_, _, _, _, _, _, _, _, _, l_times, c_times⟩ := c.def_ 28 (d := D_times) rfl
  obtain ⟨_, _, _, _, _, _, _, _, _, l_joined_short, c_joined_short⟩ := c.def_ 29 (d := D_joined_short) rfl
  obtain ⟨_, _, _, _, _, _, _, _, _, l_added_up, c_added_up⟩ := c.def_ 30 (d := D_added_up) rfl
  obtain ⟨_, _, _, _, _, _, _, _, _, l_fraction, c_fraction⟩ := c.def_ 31 (d := D_fraction) rfl
  obtain ⟨_, _, _, _, _, _, _, _, _, l_grown_short, c_grown_short⟩ := c.def_ 32 (d := D_grown_short) rfl
  obtain ⟨_, _, _, _, _, _, _, _, _, l_gathered, c_gathered⟩ := c.def_ 33 (d := D_gathered) rfl
  obtain ⟨_, _, _, _, _, _, _, _, _, l_grown, c_grown⟩ := c.def_ 34 (d := D_grown) rfl
  obtain ⟨_, _, _, _, _, _, _, _, _, l_logged_short, c_logged_short⟩ := c.def_ 35 (d := D_logged_short) rfl
  obtain ⟨_, _, _, _, _, _, _, _, _, l_logged, c_logged⟩ := c.def_ 36 (d := D_logged) rfl
  obtain ⟨_, _, _, _, _, _, _, _, _, l_law, c_law⟩ := c.def_ 37 (d := D_law) rfl
  exact all_mk (l := PySem.Challenge.rw_swaprest_k58_grown_and_logged_sums) X G hfa rfl (h_seer) (h_a__law_mixed) l__law_mixed c__law_mixed (h_k__law_mixed) (h_a__law_purse) l__law_purse c__law_purse (h_k__law_purse) (h_a__law_rank) l__law_rank c__law_rank (h_k__law_rank) (h_a__law_told) l__law_told c__law_told (h_k__law_told) (h_a__law_take) l__law_take c__law_take (h_k__law_take) (h_a__law_low) l__law_low c__law_low (h_k__law_low) (h_a__law_number) l__law_number c__law_number (h_k__law_number) (h_a__law_drawn) l__law_drawn c__law_drawn (h_k__law_drawn) (h_a__law_at) l__law_at c__law_at (h_k__law_at) (h_a__law_plus) l__law_plus c__law_plus (h_k__law_plus) (h_a__law_put) l__law_put c__law_put (h_k__law_put) (h_a__law_by) l__law_by c__law_by (h_k__law_by) (h_a__law_joined) l__law_joined c__law_joined (h_k__law_joined) (h_a__law_powers) l__law_powers c__law_powers (h_k__law_powers) (h_a__law_grown) l__law_grown c__law_grown (h_k__law_grown) (h_a__law_logged) l__law_logged c__law_logged (h_k__law_logged) (h_a_is_whole) l_is_whole c_is_whole (h_k_is_whole) (h_a_check_count) l_check_count c_check_count (h_k_check_count) (h_a_is_word) l_is_word c_is_word (h_k_is_word) (h_a_divisor) l_divisor c_divisor (h_k_divisor) (h_a_is_number) l_is_number c_is_number (h_k_is_number) (h_a_is_term) l_is_term c_is_term (h_k_is_term) (h_a_rank) l_rank c_rank (h_k_rank) (h_a_check_sum) l_check_sum c_check_sum (h_k_check_sum) (h_a_told_sum) l_told_sum c_told_sum (h_k_told_sum) (h_a_lowest) l_lowest c_lowest (h_k_lowest) (h_a_plus) l_plus c_plus (h_k_plus) (h_a_put_to) l_put_to c_put_to (h_k_put_to) (h_a_times) l_times c_times (h_k_times) (h_a_joined_short) l_joined_short c_joined_short (h_k_joined_short) (h_a_added_up) l_added_up c_added_up (h_k_added_up) (h_a_fraction) l_fraction c_fraction (h_k_fraction) (h_a_grown_short) l_grown_short c_grown_short (h_k_grown_short) (h_a_gathered) l_gathered c_gathered (h_k_gathered) (h_a_grown) l_grown c_grown (h_k_grown) (h_a_logged_short) l_logged_short c_logged_short (h_k_logged_short) (h_a_logged) l_logged c_logged (h_k_logged) (h_a_law) l_law c_law (h_k_law) (h_z_abs) (h_z_bool) (h_z_dict) (h_z_enumerate) (h_z_int) (h_z_isinstance) (h_z_len) (h_z_list) (h_z_range) (h_z_sorted) (h_z_str) (h_z_tuple) (konst_intB X G h_y_MOST) (konst_intB X G h_y_MOST_LETTERS) (konst_tupB X G h_y_NOUGHT__a h_y_NOUGHT rfl (by show 2 ≤ sizeLine; decide)) (konst_tupB X G h_y_ONE__a h_y_ONE rfl (by show 2 ≤ sizeLine; decide))
end Lw
open PySem PySem.W PySem.Calls PyProof.Rows
set_option maxHeartbeats 0 in
theorem PySem.Challenge.cw_swaprest_k58_grown_and_logged_sums_holds : PySem.Challenge.rw_swaprest_k58_grown_and_logged_sums.Holds := by
  w_on; o_law
  refine HandSHeadRun.head_any (r := (OpenLaw.row PySem.Challenge.rw_swaprest_k58_grown_and_logged_sums)) (q := view (OpenLaw.row PySem.Challenge.rw_swaprest_k58_grown_and_logged_sums).prog [53]) (H := Lw.hk) (ob := Lw.ob) (M := 20000) (loose := Lw.nms) (d := HandSHeadRun.topDef (OpenLaw.row PySem.Challenge.rw_swaprest_k58_grown_and_logged_sums).prog 53) (kwd := []) Lw.ob_eq
    (by kernel_rfl) (fun s => by kernel_rfl) Lw.run (by kernel_rfl) (by kernel_rfl) (by kernel_rfl) (by rfl) (by first | assumption | decide +kernel) (by decide +kernel) ⟨rfl, rfl, rfl, rfl, rfl, by decide +kernel⟩ ?hw ?hc
  case hw => w_witness2
  case hc =>
    refine SW.walk_G (l := PySem.Challenge.rw_swaprest_k58_grown_and_logged_sums) (k := 42) (x := "_law_script") rfl (by kernel_rfl) ⟨rfl, by decide, by decide⟩ Lw.law_true ?_
    intro w mg fa h Y G hmg0
    obtain ⟨K, KX, c⟩ := Y
    have hmg : mg ("law" : PySem.Str) = some (.ref fa) := by
      have e : (HandSHeadRun.topDef (OpenLaw.row PySem.Challenge.rw_swaprest_k58_grown_and_logged_sums).prog 53).name = ("law" : PySem.Str) := by kernel_rfl
      rw [← e]
      exact hmg0
    obtain ⟨fd, hb, hF⟩ := Lw.facts (w := w) KX G hmg c
    exact ⟨K, KX, fd, hb, fun base hK hN => hF base hK hN⟩


