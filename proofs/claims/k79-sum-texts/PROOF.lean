import PyProof.Rows.All
import HandS.Head0
import HandS.Head1
import HandS.Head2
import HandS.HeadEnd
import HandS.HeadHook1
import HandS.HeadHook2
import HandS.HeadWalk
import HandS.Words
import HandS.Exc
import HandS.ExcField
import PySem.Challenge.RW_swaprest_k79_sum_texts
import HandS.ForMost
import HandS.ForExc
import HandS.IsInst
import HandS.Flow
import HandS.Wide
import HandS.Deep
import HandS.TupAny
import HandS.TupMul
import HandS.CallSlots
import KE.DataCmp
import KE.KDictKeyed
import HandS.NoneIn
import HandS.Zip
import HandS.More
import HandS.HeadHook4
import HandS.ExcIs
import HandS.ExcValue
import HandS.Iter
import HandS.TupLen
import HandS.SortKw
import KE.SortKeyHeap
import KE.KDictCopyH
import KE.KDictSum
import HandS.Keys
import KE.DataMinMax
import KE.SortData
import KE.KDictPairs
import KE.KRevSl
import PyProof.ExcBaseAll.ValueError
import HandS.ExcInit
import KE.KExcIs
import KE.KDictDisplayH
import KE.GoesEnum
import HandS.Text
import HandS.StrMore
set_option Elab.async false
set_option linter.all false
set_option maxRecDepth 100000
/-! SW0: the program's top by one run of the kernel; the facts that a law's walk leans on, read by a hook. -/
namespace SW
open PySem PySem.Spec PyProof.Rows L2
def vBase : List Value := [.type "ValueError", .type "Exception", .type "BaseException", .type "object"]
/-! the module's facts that a division of great ints leans on -/
def strKeysB (es : Array DictEntry) : Bool := es.toList.all fun e => match e.key with
  | .str _ _ => true
  | _ => false
def noneAt (es : Array DictEntry) (x : Str) : Bool := (nsFind es x).isNone
def seerB (K : PySem.W.Frag) : Bool :=
  (match K.lookup cStatics with
  | some ⟨_, _, .dict es _, _⟩ => strKeysB es && (noneAt es "sys.audit-hooks" && noneAt es "sys.dict")
  | _ => false) &&
  ((match K.lookup sysModules with
  | some ⟨_, _, .dict es _, _⟩ => strKeysB es && noneAt es "_pylong"
  | _ => false) &&
  (match PySem.W.nsIn K mainGlobals "__builtins__" with
  | some (some (.ref bm)) => (match K.lookup bm with
    | some ⟨.type x, some d, _, _⟩ => (x == "module") && (d == builtinsNs)
    | _ => false)
  | _ => false))
abbrev AlS : Type := Bool × List He.FnV
def obsS (fk : PySem.W.Frag → Bool) (fn : List He.FnD) (K : PySem.W.Frag) : AlS := (fk K && fn.all fun d => (He.Fa.code d.at_ d.qual).ok K, fn.map fun d => He.fnObs K d.at_)
def valS (fn : List He.FnD) : AlS := (true, fn.map He.FnD.val)
def SaysS (fk : PySem.W.Frag → Bool) (fn : List He.FnD) (K : PySem.W.Frag) : Prop := obsS fk fn K = valS fn
/-! what the module's names reach: the defs, their codes, the classes' own names, their methods, these' codes (no dup is dropped: the first counts) -/
def refsL (o : Obj) : List Addr := match o.data with
  | .dict es _ => es.toList.flatMap fun e => He.refV e.val
  | .func fd => He.refV fd.code
  | .cls cd => [cd.ns]
  | _ => []
def nextL (g : Addr → Option Obj) (as : List Addr) : List Addr := as.flatMap fun a => match g a with
  | some o => refsL o
  | none => []
def asL (g : Addr → Option Obj) : List Addr :=
  let l1 := nextL g [mainGlobals]
  let l2 := nextL g l1
  let l3 := nextL g l2
  mainGlobals :: (l1 ++ (l2 ++ (l3 ++ nextL g l3)))
def obsSG (n : Nat) (fk : PySem.W.Frag → Bool) (fn : List He.FnD) (g : Addr → Option Obj) : AlS := obsS fk fn (He.frG g (cStatics :: sysModules :: asL g))
def hookS (n : Nat) (fk : PySem.W.Frag → Bool) (fn : List He.FnD) : PySem.W.Hook where
  α := AlS
  obs := fun s => obsSG n fk fn s.heap.get?
  val := fun _ => valS fn
  says := fun _ h => ∃ K : PySem.W.Frag, K.In h ∧ SaysS fk fn K
  of := fun _ _ e => ⟨_, He.frG_in, e⟩
  keeps := fun _ _ _ ⟨K, hK, c⟩ k => ⟨K, PySem.W.Frag.In.keeps hK k, c⟩
theorem obsSG_eq {n : Nat} {fk : PySem.W.Frag → Bool} {fn : List He.FnD} {g : Addr → Option Obj} {s : Shared} (h : ∀ a, g a = s.heap.get? a) : obsSG n fk fn g = (hookS n fk fn).obs s := by
  have e : g = s.heap.get? := funext h
  rw [e] <;> rfl
section
variable {fk : PySem.W.Frag → Bool} {fn : List He.FnD} {K : PySem.W.Frag} {h : Heap} {mg : Str → Option Value}
theorem SaysS.fkt (c : SaysS fk fn K) : fk K = true :=
  (He.ba (show (fk K && fn.all fun d => (He.Fa.code d.at_ d.qual).ok K) = true from congrArg (fun z : AlS => z.1) c)).1
theorem SaysS.def_ (c : SaysS fk fn K) (i : Nat) {d : He.FnD} (h : fn[i]? = some d := by rfl) :
    ∃ oc od osl kV doc pm an cdv ct, K.lookup (He.fAd K d.at_) = some ⟨oc, od, .func (PySem.W.fnOf d.name d.qual d.params d.body d.scope .none kV doc pm an cdv ct), osl⟩ ∧ PySem.W.codeIn K cdv d.qual = true := by
  have c2 := (He.ba (show (fk K && fn.all fun d => (He.Fa.code d.at_ d.qual).ok K) = true from congrArg (fun z : AlS => z.1) c)).2
  have e : fn.map (fun d => He.fnObs K d.at_) = fn.map He.FnD.val := congrArg (fun z : AlS => z.2) c
  have e2 : (fn.map fun d => He.fnObs K d.at_)[i]? = (fn.map He.FnD.val)[i]? := by rw [e]
  rw [List.getElem?_map, List.getElem?_map, h] at e2
  exact He.fn_ok (Option.some.inj e2) (List.all_eq_true.mp c2 d (List.mem_of_getElem? h))
end
/-! the run's equation in parts: each a run of its own, the facts shared out -/
section
open HandSHeadRun PySem.W
end
end SW

set_option maxRecDepth 100000
set_option maxHeartbeats 0
namespace Lw
open PySem PySem.Spec PyProof.Rows L2 SW
def topS (i : Nat) : Stmt := PySem.Challenge.pw_swaprest_k79_sum_texts.main.body.getD i (.Pass ⟨0, 0, 0, 0⟩)
abbrev s_figures_in : Stmt := topS 16
abbrev s_whole_in : Stmt := topS 17
abbrev s_is_whole : Stmt := topS 4
abbrev s_divisor : Stmt := topS 5
abbrev s_is_number : Stmt := topS 6
abbrev s_number_in : Stmt := topS 18
abbrev s_way_in : Stmt := topS 19
abbrev s_word_in : Stmt := topS 20
abbrev s_rank : Stmt := topS 8
abbrev s_read_sum : Stmt := topS 21
abbrev s__law_well : Stmt := topS 38
abbrev s__law_mixed : Stmt := topS 23
abbrev s__law_purse : Stmt := topS 24
abbrev s__law_take : Stmt := topS 25
abbrev s__law_low : Stmt := topS 27
abbrev s__law_nine : Stmt := topS 31
abbrev s__law_rank : Stmt := topS 33
abbrev s__law_sum : Stmt := topS 35
abbrev s_word_text : Stmt := topS 14
abbrev s_number_text : Stmt := topS 13
abbrev s_sum_text : Stmt := topS 15
abbrev s__law_at : Stmt := topS 26
abbrev s__law_word_text : Stmt := topS 32
abbrev s__law_number_text : Stmt := topS 36
abbrev s__law_sum_text : Stmt := topS 34
abbrev s__law_word_rank : Stmt := topS 40
abbrev s__law_great_well : Stmt := topS 39
abbrev s__law_mixed_up : Stmt := topS 37
abbrev s_law : Stmt := topS 41
def D_figures_in : He.FnD := ⟨("figures_in", none), "figures_in", "figures_in", defArgs s_figures_in, defBody s_figures_in, defScope s_figures_in⟩
def D_whole_in : He.FnD := ⟨("whole_in", none), "whole_in", "whole_in", defArgs s_whole_in, defBody s_whole_in, defScope s_whole_in⟩
def D_is_whole : He.FnD := ⟨("is_whole", none), "is_whole", "is_whole", defArgs s_is_whole, defBody s_is_whole, defScope s_is_whole⟩
def D_divisor : He.FnD := ⟨("divisor", none), "divisor", "divisor", defArgs s_divisor, defBody s_divisor, defScope s_divisor⟩
def D_is_number : He.FnD := ⟨("is_number", none), "is_number", "is_number", defArgs s_is_number, defBody s_is_number, defScope s_is_number⟩
def D_number_in : He.FnD := ⟨("number_in", none), "number_in", "number_in", defArgs s_number_in, defBody s_number_in, defScope s_number_in⟩
def D_way_in : He.FnD := ⟨("way_in", none), "way_in", "way_in", defArgs s_way_in, defBody s_way_in, defScope s_way_in⟩
def D_word_in : He.FnD := ⟨("word_in", none), "word_in", "word_in", defArgs s_word_in, defBody s_word_in, defScope s_word_in⟩
def D_rank : He.FnD := ⟨("rank", none), "rank", "rank", defArgs s_rank, defBody s_rank, defScope s_rank⟩
def D_read_sum : He.FnD := ⟨("read_sum", none), "read_sum", "read_sum", defArgs s_read_sum, defBody s_read_sum, defScope s_read_sum⟩
def D__law_well : He.FnD := ⟨("_law_well", none), "_law_well", "_law_well", defArgs s__law_well, defBody s__law_well, defScope s__law_well⟩
def D__law_mixed : He.FnD := ⟨("_law_mixed", none), "_law_mixed", "_law_mixed", defArgs s__law_mixed, defBody s__law_mixed, defScope s__law_mixed⟩
def D__law_purse : He.FnD := ⟨("_law_purse", none), "_law_purse", "_law_purse", defArgs s__law_purse, defBody s__law_purse, defScope s__law_purse⟩
def D__law_take : He.FnD := ⟨("_law_take", none), "_law_take", "_law_take", defArgs s__law_take, defBody s__law_take, defScope s__law_take⟩
def D__law_low : He.FnD := ⟨("_law_low", none), "_law_low", "_law_low", defArgs s__law_low, defBody s__law_low, defScope s__law_low⟩
def D__law_nine : He.FnD := ⟨("_law_nine", none), "_law_nine", "_law_nine", defArgs s__law_nine, defBody s__law_nine, defScope s__law_nine⟩
def D__law_rank : He.FnD := ⟨("_law_rank", none), "_law_rank", "_law_rank", defArgs s__law_rank, defBody s__law_rank, defScope s__law_rank⟩
def D__law_sum : He.FnD := ⟨("_law_sum", none), "_law_sum", "_law_sum", defArgs s__law_sum, defBody s__law_sum, defScope s__law_sum⟩
def D_word_text : He.FnD := ⟨("word_text", none), "word_text", "word_text", defArgs s_word_text, defBody s_word_text, defScope s_word_text⟩
def D_number_text : He.FnD := ⟨("number_text", none), "number_text", "number_text", defArgs s_number_text, defBody s_number_text, defScope s_number_text⟩
def D_sum_text : He.FnD := ⟨("sum_text", none), "sum_text", "sum_text", defArgs s_sum_text, defBody s_sum_text, defScope s_sum_text⟩
def D__law_at : He.FnD := ⟨("_law_at", none), "_law_at", "_law_at", defArgs s__law_at, defBody s__law_at, defScope s__law_at⟩
def D__law_word_text : He.FnD := ⟨("_law_word_text", none), "_law_word_text", "_law_word_text", defArgs s__law_word_text, defBody s__law_word_text, defScope s__law_word_text⟩
def D__law_number_text : He.FnD := ⟨("_law_number_text", none), "_law_number_text", "_law_number_text", defArgs s__law_number_text, defBody s__law_number_text, defScope s__law_number_text⟩
def D__law_sum_text : He.FnD := ⟨("_law_sum_text", none), "_law_sum_text", "_law_sum_text", defArgs s__law_sum_text, defBody s__law_sum_text, defScope s__law_sum_text⟩
def D__law_word_rank : He.FnD := ⟨("_law_word_rank", none), "_law_word_rank", "_law_word_rank", defArgs s__law_word_rank, defBody s__law_word_rank, defScope s__law_word_rank⟩
def D__law_great_well : He.FnD := ⟨("_law_great_well", none), "_law_great_well", "_law_great_well", defArgs s__law_great_well, defBody s__law_great_well, defScope s__law_great_well⟩
def D__law_mixed_up : He.FnD := ⟨("_law_mixed_up", none), "_law_mixed_up", "_law_mixed_up", defArgs s__law_mixed_up, defBody s__law_mixed_up, defScope s__law_mixed_up⟩
def D_law : He.FnD := ⟨("law", none), "law", "law", defArgs s_law, defBody s_law, defScope s_law⟩
def fns : List He.FnD := [D_figures_in, D_whole_in, D_is_whole, D_divisor, D_is_number, D_number_in, D_way_in, D_word_in, D_rank, D_read_sum, D__law_well, D__law_mixed, D__law_purse, D__law_take, D__law_low, D__law_nine, D__law_rank, D__law_sum, D_word_text, D_number_text, D_sum_text, D__law_at, D__law_word_text, D__law_number_text, D__law_sum_text, D__law_word_rank, D__law_great_well, D__law_mixed_up, D_law]
abbrev P0 (K : PySem.W.Frag) : Prop := (seerB K = true) ∧
    (PySem.W.nsIn K mainGlobals "figures_in" = some (some (.ref (He.ga K "figures_in")))) ∧
    (PySem.W.keepIn K (.ref (He.ga K "figures_in")) = true) ∧
    (PySem.W.nsIn K mainGlobals "whole_in" = some (some (.ref (He.ga K "whole_in")))) ∧
    (PySem.W.keepIn K (.ref (He.ga K "whole_in")) = true) ∧
    (PySem.W.nsIn K mainGlobals "is_whole" = some (some (.ref (He.ga K "is_whole")))) ∧
    (PySem.W.keepIn K (.ref (He.ga K "is_whole")) = true) ∧
    (PySem.W.nsIn K mainGlobals "divisor" = some (some (.ref (He.ga K "divisor")))) ∧
    (PySem.W.keepIn K (.ref (He.ga K "divisor")) = true) ∧
    (PySem.W.nsIn K mainGlobals "is_number" = some (some (.ref (He.ga K "is_number")))) ∧
    (PySem.W.keepIn K (.ref (He.ga K "is_number")) = true) ∧
    (PySem.W.nsIn K mainGlobals "number_in" = some (some (.ref (He.ga K "number_in")))) ∧
    (PySem.W.keepIn K (.ref (He.ga K "number_in")) = true) ∧
    (PySem.W.nsIn K mainGlobals "way_in" = some (some (.ref (He.ga K "way_in")))) ∧
    (PySem.W.keepIn K (.ref (He.ga K "way_in")) = true) ∧
    (PySem.W.nsIn K mainGlobals "word_in" = some (some (.ref (He.ga K "word_in")))) ∧
    (PySem.W.keepIn K (.ref (He.ga K "word_in")) = true) ∧
    (PySem.W.nsIn K mainGlobals "rank" = some (some (.ref (He.ga K "rank")))) ∧
    (PySem.W.keepIn K (.ref (He.ga K "rank")) = true) ∧
    (PySem.W.nsIn K mainGlobals "read_sum" = some (some (.ref (He.ga K "read_sum")))) ∧
    (PySem.W.keepIn K (.ref (He.ga K "read_sum")) = true) ∧
    (PySem.W.nsIn K mainGlobals "_law_well" = some (some (.ref (He.ga K "_law_well")))) ∧
    (PySem.W.keepIn K (.ref (He.ga K "_law_well")) = true) ∧
    (PySem.W.nsIn K mainGlobals "_law_mixed" = some (some (.ref (He.ga K "_law_mixed")))) ∧
    (PySem.W.keepIn K (.ref (He.ga K "_law_mixed")) = true) ∧ True
def fk0 (K : PySem.W.Frag) : Bool := decide (P0 K)
abbrev P1 (K : PySem.W.Frag) : Prop := (PySem.W.nsIn K mainGlobals "_law_purse" = some (some (.ref (He.ga K "_law_purse")))) ∧
    (PySem.W.keepIn K (.ref (He.ga K "_law_purse")) = true) ∧
    (PySem.W.nsIn K mainGlobals "_law_take" = some (some (.ref (He.ga K "_law_take")))) ∧
    (PySem.W.keepIn K (.ref (He.ga K "_law_take")) = true) ∧
    (PySem.W.nsIn K mainGlobals "_law_low" = some (some (.ref (He.ga K "_law_low")))) ∧
    (PySem.W.keepIn K (.ref (He.ga K "_law_low")) = true) ∧
    (PySem.W.nsIn K mainGlobals "_law_nine" = some (some (.ref (He.ga K "_law_nine")))) ∧
    (PySem.W.keepIn K (.ref (He.ga K "_law_nine")) = true) ∧
    (PySem.W.nsIn K mainGlobals "_law_rank" = some (some (.ref (He.ga K "_law_rank")))) ∧
    (PySem.W.keepIn K (.ref (He.ga K "_law_rank")) = true) ∧
    (PySem.W.nsIn K mainGlobals "_law_sum" = some (some (.ref (He.ga K "_law_sum")))) ∧
    (PySem.W.keepIn K (.ref (He.ga K "_law_sum")) = true) ∧
    (PySem.W.nsIn K mainGlobals "word_text" = some (some (.ref (He.ga K "word_text")))) ∧
    (PySem.W.keepIn K (.ref (He.ga K "word_text")) = true) ∧
    (PySem.W.nsIn K mainGlobals "number_text" = some (some (.ref (He.ga K "number_text")))) ∧
    (PySem.W.keepIn K (.ref (He.ga K "number_text")) = true) ∧
    (PySem.W.nsIn K mainGlobals "sum_text" = some (some (.ref (He.ga K "sum_text")))) ∧
    (PySem.W.keepIn K (.ref (He.ga K "sum_text")) = true) ∧
    (PySem.W.nsIn K mainGlobals "_law_at" = some (some (.ref (He.ga K "_law_at")))) ∧
    (PySem.W.keepIn K (.ref (He.ga K "_law_at")) = true) ∧
    (PySem.W.nsIn K mainGlobals "_law_word_text" = some (some (.ref (He.ga K "_law_word_text")))) ∧
    (PySem.W.keepIn K (.ref (He.ga K "_law_word_text")) = true) ∧
    (PySem.W.nsIn K mainGlobals "_law_number_text" = some (some (.ref (He.ga K "_law_number_text")))) ∧
    (PySem.W.keepIn K (.ref (He.ga K "_law_number_text")) = true) ∧
    (PySem.W.nsIn K mainGlobals "_law_sum_text" = some (some (.ref (He.ga K "_law_sum_text")))) ∧ True
def fk1 (K : PySem.W.Frag) : Bool := decide (P1 K)
abbrev P2 (K : PySem.W.Frag) : Prop := (PySem.W.keepIn K (.ref (He.ga K "_law_sum_text")) = true) ∧
    (PySem.W.nsIn K mainGlobals "_law_word_rank" = some (some (.ref (He.ga K "_law_word_rank")))) ∧
    (PySem.W.keepIn K (.ref (He.ga K "_law_word_rank")) = true) ∧
    (PySem.W.nsIn K mainGlobals "_law_great_well" = some (some (.ref (He.ga K "_law_great_well")))) ∧
    (PySem.W.keepIn K (.ref (He.ga K "_law_great_well")) = true) ∧
    (PySem.W.nsIn K mainGlobals "_law_mixed_up" = some (some (.ref (He.ga K "_law_mixed_up")))) ∧
    (PySem.W.keepIn K (.ref (He.ga K "_law_mixed_up")) = true) ∧
    (PySem.W.nsIn K mainGlobals "law" = some (some (.ref (He.ga K "law")))) ∧
    (PySem.W.keepIn K (.ref (He.ga K "law")) = true) ∧
    (PySem.W.nsIn K mainGlobals "abs" = some none) ∧
    (PySem.W.nsIn K mainGlobals "bool" = some none) ∧
    (PySem.W.nsIn K mainGlobals "enumerate" = some none) ∧
    (PySem.W.nsIn K mainGlobals "int" = some none) ∧
    (PySem.W.nsIn K mainGlobals "isinstance" = some none) ∧
    (PySem.W.nsIn K mainGlobals "len" = some none) ∧
    (PySem.W.nsIn K mainGlobals "list" = some none) ∧
    (PySem.W.nsIn K mainGlobals "range" = some none) ∧
    (PySem.W.nsIn K mainGlobals "sorted" = some none) ∧
    (PySem.W.nsIn K mainGlobals "str" = some none) ∧
    (PySem.W.nsIn K mainGlobals "tuple" = some none) ∧
    ((He.Fa.str "FIGURES" "0123456789").ok K = true) ∧
    ((He.Fa.int "MOST_FIGURES" 9).ok K = true) ∧
    ((He.Fa.int "MOST_WAYS" 5).ok K = true) ∧ True
def fk2 (K : PySem.W.Frag) : Bool := decide (P2 K)
def fk (K : PySem.W.Frag) : Bool := fk0 K && (fk1 K && (fk2 K))
abbrev hk : PySem.W.Hook := hookS 5 fk fns
def ob (s : PySem.W.SharedT) : AlS := obsSG 5 fk fns (HandSHeadRun.getT s)
theorem ob_eq (s : PySem.W.SharedT) : ob s = hk.obs s.abs := obsSG_eq (HandSHeadRun.getT_eq s)
def nm0 : List Str := ["SwapError", "NoText", "is_whole", "divisor", "is_number", "rank", "FIGURES", "MOST_FIGURES", "MOST_WAYS", "number_text", "word_text", "sum_text", "figures_in", "whole_in", "number_in", "way_in", "word_in", "read_sum", "_law_mixed", "_law_purse", "_law_take", "_law_at", "_law_low", "_law_plus", "_law_by", "_law_not", "_law_nine", "_law_word_text", "_law_rank", "_law_sum_text"]
def nm1 : List Str := ["_law_sum", "_law_number_text", "_law_mixed_up", "_law_well", "_law_great_well", "_law_word_rank"]
def nms : List Str := nm0 ++ (nm1)
theorem run (w : World) : HandSHeadRun.RunEq (PySem.W.OpenLaw.row PySem.Challenge.rw_swaprest_k79_sum_texts) (PySem.W.view (PySem.W.OpenLaw.row PySem.Challenge.rw_swaprest_k79_sum_texts).prog [41]) hk ob 20000 nms w := by
  intro os
  kernel_rfl
end Lw

set_option maxRecDepth 100000
/-! SW1: data without a heap (D), how a heap bears them (At), owned cells (OwnAt), a frame's slots (Rel), steps (Stp). -/
namespace SW
open PySem PySem.Spec PyProof.Rows L2

/-- the built-in classes that are named -/
inductive Tc where
  | int | bool | tuple | list | str | dict
def Tc.nm : Tc → String
  | .int => "int"
  | .bool => "bool"
  | .tuple => "tuple"
  | .list => "list"
  | .str => "str"
  | .dict => "dict"
/-- a datum -/
inductive D where
  | non | bl (b : Bool) | int (i : Int) | str (x : Str)
  | tup (xs : List D) | lst (xs : List D)
  | dct (kvs : List (NestedKey × D))
  /-- an instance of a class of the program, its attributes; an exception of a class, with its one field or none -/
  | ins (c : Str) (fs : List (Str × D))
  | exc (c : Str) (fs : List (Str × D))
  | scr (ns : List Int)
  | ty (n : Tc)

/-- an exception of the class cls, caught once, at a -/
def ExT (cls : Value) (d : Option Addr) (a : Addr) : HO := .ext fun h => ∃ (oe : Obj) (vs : Array Value), h.get? a = some oe ∧ Zc cls d oe ∧ oe.data = .fields vs
/-- a dict's object and what its entries are: the key, its tuple, the value -/
structure DX where
  o : Obj
  xs : List (NestedKey × Addr × V)
def DT (a : Addr) (x : DX) : HO := .ext fun h => h.get? a = some x.o
mutual
/-- a key as a datum -/
def keyB : NestedKey → D
  | .none => .non
  | .num i => .int i
  | .text x => .str x
  | .tup ks => .tup (keyBs ks)
def keyBs : List NestedKey → List D
  | [] => []
  | k :: ks => keyB k :: keyBs ks
end
mutual
/-- a datum as a key (no texts) -/
def keyD : D → Option NestedKey
  | .non => some .none
  | .int i => some (.num i)
  | .tup ds => match keyDs ds with
    | some ks => some (.tup ks)
    | none => none
  | .bl _ => none
  | .str _ => none
  | .lst _ => none
  | .dct _ => none
  | .ins _ _ => none
  | .exc _ _ => none
  | .scr _ => none
  | .ty _ => none
def keyDs : List D → Option (List NestedKey)
  | [] => some []
  | d :: ds => match keyD d, keyDs ds with
    | some k, some ks => some (k :: ks)
    | _, _ => none
end
/-- a tuple that is a key -/
def keyT (d : D) : Option NestedKey := match d with
  | .tup ds => match keyD (.tup ds) with
    | some k => if k.depth ≤ 8 then some k else none
    | none => none
  | _ => none
def DX.vs (x : DX) : List V := (x.xs.map fun p => V.ref p.2.1) ++ x.xs.map fun p => p.2.2
def dvs (ds : List (NestedKey × D)) : List D := (ds.map fun p => keyB p.1) ++ ds.map fun p => p.2
abbrev EnL : List DictEntry → List (NestedKey × Addr × V) → Prop := Paired fun en x => (∀ w, en.hash = NestedKey.hash w x.1) ∧ en.key = .ref x.2.1 ∧ RelV x.2.2 en.val
/-- the object x.o, at a, is a dict of the entries x.xs, whose keys are those of ds -/
structure DTok (a : Addr) (x : DX) (ds : List (NestedKey × D)) : Prop where
  sys : (a == sysModules) = false
  ex : x.o.ExactDict
  keys : x.xs.map (·.1) = ds.map (·.1)
  nodup : (x.xs.map (·.1)).Nodup
  kk : ∀ p ∈ x.xs, keyT (keyB p.1) = some p.1
  ens : ∃ es ep, x.o.data = .dict es ep ∧ EnL es.toList x.xs

mutual
inductive At (K : PySem.W.Frag) (S : Hp) : V → D → Prop
  | non : At K S .non .non
  | bl (b : Bool) : At K S (.bl b) (.bl b)
  | int (i : Int) : At K S (.int i) (.int i)
  | str (x : Str) : At K S (.str x) (.str x)
  | tup {a : Addr} {vs : List V} {ds : List D} : SqT K S a vs → ds.length ≤ sizeLine → AtL K S vs ds → At K S (.ref a) (.tup ds)
  | lst {a : Addr} {vs : List V} {ds : List D} : S a = some (.lst vs) → ds.length ≤ sizeLine → AtL K S vs ds → At K S (.ref a) (.lst ds)
  | dct {a : Addr} {x : DX} {ds : List (NestedKey × D)} : S a = some (DT a x) → DTok a x ds → ds.length ≤ sizeLine → AtL K S x.vs (dvs ds) → At K S (.ref a) (.dct ds)
  | ins {a C dx : Addr} {c : Str} {fv : List (Str × V)} {fs : List (Str × D)} : S a = some (.ins C dx fv) → PySem.W.nsIn K mainGlobals c = some (some (.ref C)) → S dx = some (.own a) → fv.map (·.1) = fs.map (·.1) → AtL K S (fv.map (·.2)) (fs.map (·.2)) → At K S (.ref a) (.ins c fs)
  | exc0 {a C : Addr} {c : Str} : S a = some (ExT (.ref C) none a) → PySem.W.nsIn K mainGlobals c = some (some (.ref C)) → At K S (.ref a) (.exc c [])
  | exc1 {a C d : Addr} {c f : Str} {v : V} {x : D} : S a = some (ExT (.ref C) (some d) a) → PySem.W.nsIn K mainGlobals c = some (some (.ref C)) → S d = some (.xd [(f, v)]) → At K S v x → At K S (.ref a) (.exc c [(f, x)])
  | scr {a : Addr} {ns : List Int} : SqL K S a (ns.map V.int) → ns.length ≤ sizeLine → At K S (.ref a) (.scr ns)
  | ty {x : String} (n : Tc) : x = n.nm → At K S (.ty x) (.ty n)
inductive AtL (K : PySem.W.Frag) (S : Hp) : List V → List D → Prop
  | nil : AtL K S [] []
  | cons {v : V} {vs : List V} {d : D} {ds : List D} : At K S v d → AtL K S vs ds → AtL K S (v :: vs) (d :: ds)
end

theorem sqT_mono {K : PySem.W.Frag} {H H' : Hp} {a : Addr} {xs : List V} (e : Same H H') (h : SqT K H a xs) : SqT K H' a xs := by
  rcases h with (h | ⟨o, h⟩) | h
  · exact .inl (.inl (e _ _ h))
  · exact .inl (.inr ⟨o, e _ _ h⟩)
  · exact .inr h

mutual
theorem At.mono {K : PySem.W.Frag} {S S' : Hp} (e : Same S S') : ∀ {v : V} {d : D}, At K S v d → At K S' v d
  | _, _, .non => .non
  | _, _, .bl b => .bl b
  | _, _, .int i => .int i
  | _, _, .str x => .str x
  | _, _, .tup h z r => .tup (sqT_mono e h) z (AtL.mono e r)
  | _, _, .lst h z r => .lst (e _ _ h) z (AtL.mono e r)
  | _, _, .dct h k z r => .dct (e _ _ h) k z (AtL.mono e r)
  | _, _, .ins h c k q r => .ins (e _ _ h) c (e _ _ k) q (AtL.mono e r)
  | _, _, .exc0 h c => .exc0 (e _ _ h) c
  | _, _, .exc1 h c d r => .exc1 (e _ _ h) c (e _ _ d) (At.mono e r)
  | _, _, .scr h z => .scr (e.seq h) z
  | _, _, .ty n h => .ty n h
theorem AtL.mono {K : PySem.W.Frag} {S S' : Hp} (e : Same S S') : ∀ {vs : List V} {ds : List D}, AtL K S vs ds → AtL K S' vs ds
  | _, _, .nil => .nil
  | _, _, .cons h r => .cons (At.mono e h) (AtL.mono e r)
end
section
variable {K : PySem.W.Frag} {S S' H H' : Hp}
theorem AtL.length : ∀ {vs : List V} {ds : List D}, AtL K S vs ds → vs.length = ds.length
  | _, _, .nil => rfl
  | _, _, .cons _ r => by rw [List.length_cons, List.length_cons, AtL.length r]
theorem AtL.get : ∀ {vs : List V} {ds : List D} {i : Nat} {d : D}, AtL K S vs ds → ds[i]? = some d → ∃ v, vs[i]? = some v ∧ At K S v d
  | _, _, _, _, .nil, e => by simp at e
  | _, _, 0, _, .cons h _, e => by simp at e; subst e; exact ⟨_, rfl, h⟩
  | _, _, i + 1, _, .cons _ r, e => by
    obtain ⟨v, h1, h2⟩ := AtL.get (i := i) r (by simpa using e)
    exact ⟨v, by simpa using h1, h2⟩
theorem AtL.getV : ∀ {vs : List V} {ds : List D} {i : Nat} {v : V}, AtL K S vs ds → vs[i]? = some v → ∃ d, ds[i]? = some d ∧ At K S v d
  | _, _, _, _, .nil, e => by simp at e
  | _, _, 0, _, .cons h _, e => by simp at e; subst e; exact ⟨_, rfl, h⟩
  | _, _, i + 1, _, .cons _ r, e => by
    obtain ⟨v, h1, h2⟩ := AtL.getV (i := i) r (by simpa using e)
    exact ⟨v, by simpa using h1, h2⟩
theorem AtL.append : ∀ {vs ws : List V} {ds es : List D}, AtL K S vs ds → AtL K S ws es → AtL K S (vs ++ ws) (ds ++ es)
  | _, _, _, _, .nil, r => r
  | _, _, _, _, .cons h t, r => .cons h (AtL.append t r)
theorem AtL.take : ∀ {vs : List V} {ds : List D} (n : Nat), AtL K S vs ds → AtL K S (vs.take n) (ds.take n)
  | _, _, 0, _ => .nil
  | _, _, _ + 1, .nil => .nil
  | _, _, n + 1, .cons h t => .cons h (AtL.take n t)
theorem AtL.drop : ∀ {vs : List V} {ds : List D} (n : Nat), AtL K S vs ds → AtL K S (vs.drop n) (ds.drop n)
  | _, _, 0, r => r
  | _, _, _ + 1, .nil => .nil
  | _, _, n + 1, .cons _ t => AtL.drop n t
theorem AtL.set : ∀ {vs : List V} {ds : List D} {v : V} {d : D} (i : Nat), AtL K S vs ds → At K S v d → AtL K S (vs.set i v) (ds.set i d)
  | _, _, _, _, _, .nil, _ => .nil
  | _, _, _, _, 0, .cons _ t, h => .cons h t
  | _, _, _, _, i + 1, .cons q t, h => .cons q (AtL.set i t h)
theorem AtL.ints : ∀ ns : List Int, AtL K S (ns.map V.int) (ns.map D.int)
  | [] => .nil
  | n :: ns => .cons (.int n) (AtL.ints ns)

/-! ### owned cells -/
/-- what a cell that one name alone holds is: a list, a dict, an instance; what is in it stands -/
inductive Body (K : PySem.W.Frag) (S : Hp) (a : Addr) : HO → D → Prop
  | lst {vs : List V} {ds : List D} (z : ds.length ≤ sizeLine) (r : AtL K S vs ds) : Body K S a (.lst vs) (.lst ds)
  | dct {x : DX} {ds : List (NestedKey × D)} (k : DTok a x ds) (z : ds.length ≤ sizeLine) (r : AtL K S x.vs (dvs ds)) : Body K S a (DT a x) (.dct ds)
  | ins {C dx : Addr} {c : Str} {fv : List (Str × V)} {fs : List (Str × D)} (hc : PySem.W.nsIn K mainGlobals c = some (some (.ref C))) (hd : S dx = some (.own a)) (q : fv.map (·.1) = fs.map (·.1)) (r : AtL K S (fv.map (·.2)) (fs.map (·.2))) : Body K S a (.ins C dx fv) (.ins c fs)
theorem Body.mono {a : Addr} {o : HO} {d : D} (e : Same S S') : Body K S a o d → Body K S' a o d
  | .lst z r => .lst z (r.mono e)
  | .dct k z r => .dct k z (r.mono e)
  | .ins c k q r => .ins c (e _ _ k) q (r.mono e)
theorem Body.at {a : Addr} {o : HO} {d : D} (h : S a = some o) : Body K S a o d → At K S (.ref a) d
  | .lst z r => .lst h z r
  | .dct k z r => .dct h k z r
  | .ins c k q r => .ins h c k q r
def OwnAt (K : PySem.W.Frag) (S H : Hp) (v : V) (d : D) : Prop :=
  ∃ a, v = .ref a ∧ S a = none ∧ ∃ o, H a = some o ∧ Body K S a o d
theorem OwnAt.mkL {a : Addr} {vs : List V} {ds : List D} (n : S a = none) (h : H a = some (.lst vs)) (z : ds.length ≤ sizeLine) (r : AtL K S vs ds) : OwnAt K S H (.ref a) (.lst ds) := ⟨a, rfl, n, _, h, .lst z r⟩

def SlotAt (K : PySem.W.Frag) (S H : Hp) : Bool → Option V → Option D → Prop
  | _, none, none => True
  | false, some v, some d => At K S v d
  | true, some v, some d => OwnAt K S H v d
  | _, _, _ => False

abbrev Rho := List (Option D)
abbrev Os := List Bool
abbrev Sg := L2.St

/-- the addresses that the owning slots hold -/
def Own (os : Os) (σ : Sg) (a : Addr) : Prop := ∃ i, os.getD i false = true ∧ σ[i]? = some (some (.ref a))

structure Rel (K : PySem.W.Frag) (S H : Hp) (os : Os) (σ : Sg) (ρ : Rho) : Prop where
  sub : Same S H
  len : σ.length = ρ.length
  slot : ∀ i x d, σ[i]? = some x → ρ[i]? = some d → SlotAt K S H (os.getD i false) x d
  sep : ∀ i j a, os.getD i false = true → os.getD j false = true → σ[i]? = some (some (.ref a)) → σ[j]? = some (some (.ref a)) → i = j

/-- O: what may be turned; all else that doesn't stand is left alone -/
structure Ext (O : Addr → Prop) (S H S' H' : Hp) : Prop where
  s : Same S S'
  sh : Same S' H'
  fr : ∀ a o, H a = some o → S a = none → ¬ O a → H' a = some o ∧ S' a = none
  there : ∀ a, H' a = none → H a = none

structure Stp (os : Os) (σ : Sg) (S H : Hp) (os' : Os) (σ' : Sg) (S' H' : Hp) : Prop where
  ext : Ext (Own os σ) S H S' H'
  own : ∀ a, Own os' σ' a → Own os σ a ∨ H a = none

theorem Ext.refl {O : Addr → Prop} (h : Same S H) : Ext O S H S H := ⟨Same.refl _, h, fun _ _ e n _ => ⟨e, n⟩, fun _ e => e⟩
theorem Ext.trans {O O1 : Addr → Prop} {S1 H1 S2 H2 : Hp} (a : Ext O S H S1 H1) (b : Ext O1 S1 H1 S2 H2) (ho : ∀ c, O1 c → O c ∨ H c = none) : Ext O S H S2 H2 where
  s := a.s.trans b.s
  sh := b.sh
  fr := fun c o e n no => by
    obtain ⟨e1, n1⟩ := a.fr c o e n no
    refine b.fr c o e1 n1 fun q => ?_
    rcases ho c q with q | q
    · exact no q
    · rw [e] at q; cases q
  there := fun c e => a.there c (b.there c e)
theorem Ext.weak {O O' : Addr → Prop} {S1 H1 : Hp} (a : Ext O S H S1 H1) (h : ∀ c, O c → O' c) : Ext O' S H S1 H1 :=
  ⟨a.s, a.sh, fun c o e n no => a.fr c o e n fun q => no (h c q), a.there⟩
theorem Stp.refl {os : Os} {σ : Sg} (h : Same S H) : Stp os σ S H os σ S H := ⟨Ext.refl h, fun _ q => .inl q⟩
theorem Stp.trans {os os1 os2 : Os} {σ σ1 σ2 : Sg} {S1 H1 S2 H2 : Hp} (a : Stp os σ S H os1 σ1 S1 H1) (b : Stp os1 σ1 S1 H1 os2 σ2 S2 H2) : Stp os σ S H os2 σ2 S2 H2 where
  ext := a.ext.trans b.ext a.own
  own := fun c q => by
    rcases b.own c q with q | q
    · exact a.own c q
    · exact .inr (a.ext.there c q)

/-- a new cell is laid and stands -/
theorem Ext.new {O : Addr → Prop} {p : Addr} {o : HO} (h : Same S H) (n : H p = none) : Ext O S H (upd S p o) (upd H p o) where
  s := fun b x e => by rw [upd_ne (ne_of_none (h b x e) n)]; exact e
  sh := fun b x e => by
    by_cases hb : b = p
    · subst hb; rw [upd_same] at e ⊢; exact e
    · rw [upd_ne hb] at e ⊢; exact h b x e
  fr := fun b x e nb _ => by
    have hb : b ≠ p := ne_of_none e n
    rw [upd_ne hb, upd_ne hb]; exact ⟨e, nb⟩
  there := fun b e => by
    by_cases hb : b = p
    · subst hb; rw [upd_same] at e; cases e
    · rw [upd_ne hb] at e; exact e
/-- a new cell is laid; it is owned -/
theorem Ext.newO {O : Addr → Prop} {p : Addr} {o : HO} (h : Same S H) (n : H p = none) : Ext O S H S (upd H p o) where
  s := Same.refl _
  sh := fun b x e => by rw [upd_ne (ne_of_none (h b x e) n)]; exact h b x e
  fr := fun b x e nb _ => by rw [upd_ne (ne_of_none e n)]; exact ⟨e, nb⟩
  there := fun b e => by
    by_cases hb : b = p
    · subst hb; rw [upd_same] at e; cases e
    · rw [upd_ne hb] at e; exact e
/-- an owned cell is turned -/
theorem Ext.turn {O : Addr → Prop} {p : Addr} {o : HO} (h : Same S H) (n : S p = none) (ho : O p) : Ext O S H S (upd H p o) where
  s := Same.refl _
  sh := fun b x e => by
    have hb : b ≠ p := fun z => by rw [z, n] at e; cases e
    rw [upd_ne hb]; exact h b x e
  fr := fun b x e nb no => by
    have hb : b ≠ p := fun z => no (by rw [z]; exact ho)
    rw [upd_ne hb]; exact ⟨e, nb⟩
  there := fun b e => by
    by_cases hb : b = p
    · subst hb; rw [upd_same] at e; cases e
    · rw [upd_ne hb] at e; exact e

theorem OwnAt.ext {O : Addr → Prop} {v : V} {d : D} (q : OwnAt K S H v d) (x : Ext O S H S' H') (h : ∀ a, v = .ref a → ¬ O a) : OwnAt K S' H' v d := by
  obtain ⟨a, e, n, q⟩ := q
  have no := h a e
  obtain ⟨o, eh, b⟩ := q
  obtain ⟨e1, n1⟩ := x.fr a _ eh n no
  exact ⟨a, e, n1, o, e1, b.mono x.s⟩
theorem OwnAt.some_ {v : V} {d : D} (q : OwnAt K S H v d) : ∃ a o, v = .ref a ∧ S a = none ∧ H a = some o := by
  obtain ⟨a, e, n, q⟩ := q
  obtain ⟨o, eh, b⟩ := q
  exact ⟨a, o, e, n, eh⟩

section
variable {os os' : Os} {σ σ' : Sg} {ρ ρ' : Rho} {i : Nat}
/-- nothing that the slots own is touched -/
theorem Rel.grow {O : Addr → Prop} (r : Rel K S H os σ ρ) (x : Ext O S H S' H') (h : ∀ a, Own os σ a → ¬ O a) : Rel K S' H' os σ ρ where
  sub := x.sh
  len := r.len
  slot := fun i v d e1 e2 => by
    have q := r.slot i v d e1 e2
    cases ho : os.getD i false <;> rw [ho] at q <;> cases v <;> cases d <;> simp only [SlotAt] at q ⊢
    · exact q.mono x.s
    · refine q.ext x fun a ea => h a ⟨i, ho, ?_⟩
      rw [e1, ea]
  sep := r.sep
theorem Rel.new {p : Addr} {o : HO} (r : Rel K S H os σ ρ) (n : H p = none) : Rel K (upd S p o) (upd H p o) os σ ρ := r.grow (Ext.new (O := fun _ => False) r.sub n) fun _ _ z => z
theorem Rel.newO {p : Addr} {o : HO} (r : Rel K S H os σ ρ) (n : H p = none) : Rel K S (upd H p o) os σ ρ := r.grow (Ext.newO (O := fun _ => False) r.sub n) fun _ _ z => z
/-- a slot is read -/
theorem Rel.val (r : Rel K S H os σ ρ) {d : D} (h : ρ[i]? = some (some d)) (ho : os.getD i false = false) : ∃ v, σ[i]? = some (some v) ∧ At K S v d := by
  have hl : i < σ.length := by rw [r.len]; exact (List.getElem?_eq_some_iff.mp h).1
  have q := r.slot i _ _ (List.getElem?_eq_getElem hl) h
  rw [ho] at q
  cases e : σ[i] with
  | none => rw [e] at q; exact q.elim
  | some v => rw [e] at q; exact ⟨v, by rw [List.getElem?_eq_getElem hl, e], q⟩
theorem Rel.own (r : Rel K S H os σ ρ) {d : D} (h : ρ[i]? = some (some d)) (ho : os.getD i false = true) : ∃ v, σ[i]? = some (some v) ∧ OwnAt K S H v d := by
  have hl : i < σ.length := by rw [r.len]; exact (List.getElem?_eq_some_iff.mp h).1
  have q := r.slot i _ _ (List.getElem?_eq_getElem hl) h
  rw [ho] at q
  cases e : σ[i] with
  | none => rw [e] at q; exact q.elim
  | some v => rw [e] at q; exact ⟨v, by rw [List.getElem?_eq_getElem hl, e], q⟩
/-- an owned slot's cell holds what is known -/
theorem Rel.owned (r : Rel K S H os σ ρ) {a : Addr} (h : Own os σ a) : S a = none ∧ ∃ o, H a = some o := by
  obtain ⟨i, ho, e⟩ := h
  have hl : i < ρ.length := by rw [← r.len]; exact (List.getElem?_eq_some_iff.mp e).1
  have q := r.slot i _ _ e (List.getElem?_eq_getElem hl)
  rw [ho] at q
  cases ed : ρ[i] with
  | none => rw [ed] at q; exact q.elim
  | some d =>
    rw [ed] at q
    obtain ⟨b, o, e1, n, e2⟩ := OwnAt.some_ (show OwnAt K S H (.ref a) d from q)
    cases e1
    exact ⟨n, o, e2⟩

/-! ### freezing -/
/-- all cells of the slots that are freed stand from now on -/
theorem getD_set_self {os : Os} {i : Nat} : (os.set i false).getD i false = false := by
  by_cases h : i < os.length
  · simp [List.getD, h]
  · rw [List.getD, List.getElem?_eq_none (by rw [List.length_set]; omega)]; rfl
theorem getD_set_ne {os : Os} {i j : Nat} {b : Bool} (h : i ≠ j) : (os.set i b).getD j false = os.getD j false := by
  simp [List.getD, List.getElem?_set_ne h]
theorem freeze1 (r : Rel K S H os σ ρ) (i : Nat) : ∃ S', Same S S' ∧ Rel K S' H (os.set i false) σ ρ ∧ Stp os σ S H (os.set i false) σ S' H ∧ ∀ v d, os.getD i false = true → σ[i]? = some (some v) → ρ[i]? = some (some d) → At K S' v d := by
  have hle : ∀ j, (os.set i false).getD j false = true → os.getD j false = true ∧ j ≠ i := fun j h => by
    by_cases e : i = j
    · subst e; rw [getD_set_self] at h; cases h
    · rw [getD_set_ne e] at h; exact ⟨h, fun z => e z.symm⟩
  have hown : ∀ a, Own (os.set i false) σ a → Own os σ a := fun a ⟨j, h, e⟩ => ⟨j, (hle j h).1, e⟩
  by_cases ho : os.getD i false = true
  · -- is the slot filled?
    by_cases hf : ∃ v d, σ[i]? = some (some v) ∧ ρ[i]? = some (some d)
    · obtain ⟨v, d, ev, ed⟩ := hf
      have q0 : OwnAt K S H v d := by
        have q := r.slot i _ _ ev ed
        rw [ho] at q
        exact q
      obtain ⟨a, e, n, qq⟩ := q0
      subst e
      -- the cell's object
      have key : ∀ o, H a = some o → At K (upd S a o) (.ref a) d → ∃ S', Same S S' ∧ Rel K S' H (os.set i false) σ ρ ∧ Stp os σ S H (os.set i false) σ S' H ∧ ∀ v d, os.getD i false = true → σ[i]? = some (some v) → ρ[i]? = some (some d) → At K S' v d := fun o eh hat => by
        have sm : Same S (upd S a o) := fun b x e => by
          have hb : b ≠ a := fun z => by rw [z, n] at e; cases e
          rw [upd_ne hb]; exact e
        have sh : Same (upd S a o) H := fun b x e => by
          by_cases hb : b = a
          · subst hb; rw [upd_same] at e; rw [eh]; exact e
          · rw [upd_ne hb] at e; exact r.sub b x e
        have ext : Ext (Own os σ) S H (upd S a o) H := ⟨sm, sh, fun b x e nb no => by
          have hb : b ≠ a := fun z => no (by rw [z]; exact ⟨i, ho, ev⟩)
          rw [upd_ne hb]; exact ⟨e, nb⟩, fun _ e => e⟩
        refine ⟨upd S a o, sm, ⟨sh, r.len, fun j x y e1 e2 => ?_, fun j k b h1 h2 e1 e2 => r.sep j k b (hle j h1).1 (hle k h2).1 e1 e2⟩, ⟨ext, fun b q => .inl (hown b q)⟩, fun v' d' _ e1 e2 => ?_⟩
        · by_cases hj : i = j
          · subst hj
            rw [ev] at e1; rw [ed] at e2; cases e1; cases e2
            rw [getD_set_self]; exact hat
          · rw [getD_set_ne hj]
            have q := r.slot j x y e1 e2
            cases hoj : os.getD j false <;> rw [hoj] at q <;> cases x <;> cases y <;> simp only [SlotAt] at q ⊢
            · exact q.mono sm
            · rename_i w z
              obtain ⟨b, eb, nb, q⟩ := q
              have hb : b ≠ a := fun z => hj (r.sep i j a ho hoj ev (by rw [e1, eb, z]))
              refine ⟨b, eb, by rw [upd_ne hb]; exact nb, ?_⟩
              obtain ⟨o', eh', bd⟩ := q
              exact ⟨o', eh', bd.mono sm⟩
        · rw [ev] at e1; rw [ed] at e2; cases e1; cases e2; exact hat
      obtain ⟨o, eh, bd⟩ := qq
      exact key _ eh ((bd.mono fun b x e => by
          have hb : b ≠ a := fun z => by rw [z, n] at e; cases e
          rw [upd_ne hb]; exact e).at upd_same)
    · refine ⟨S, Same.refl _, ⟨r.sub, r.len, fun j x y e1 e2 => ?_, fun j k b h1 h2 e1 e2 => r.sep j k b (hle j h1).1 (hle k h2).1 e1 e2⟩, ⟨Ext.refl r.sub, fun b q => .inl (hown b q)⟩, fun v' d' _ e1 e2 => (hf ⟨_, _, e1, e2⟩).elim⟩
      by_cases hj : i = j
      · subst hj
        rw [getD_set_self]
        have q := r.slot i x y e1 e2
        rw [ho] at q
        cases x <;> cases y <;> simp only [SlotAt] at q ⊢
        exact (hf ⟨_, _, e1, e2⟩).elim
      · rw [getD_set_ne hj]; exact r.slot j x y e1 e2
  · have hof : os.getD i false = false := by cases h : os.getD i false <;> simp_all
    have hsame : ∀ j, (os.set i false).getD j false = os.getD j false := fun j => by
      by_cases e : i = j
      · subst e; rw [getD_set_self, hof]
      · exact getD_set_ne e
    exact ⟨S, Same.refl _, ⟨r.sub, r.len, fun j x y e1 e2 => by rw [hsame]; exact r.slot j x y e1 e2, fun j k b h1 h2 => r.sep j k b (by rw [← hsame]; exact h1) (by rw [← hsame]; exact h2)⟩, ⟨Ext.refl r.sub, fun b q => .inl (hown b q)⟩, fun v d h => absurd h (by rw [hof]; decide)⟩
end
end
end SW

set_option maxRecDepth 100000
/-! SW2: outcomes, posts, judgements by data (VE, VT, VA, VG, VI, VS), the rules of names, constants, operators, displays, calls. -/
namespace SW
open PySem PySem.Spec PyProof.Rows L2

inductive Out (α : Type) where
  | ok (a : α) | exc (c : Str) (fs : Option (Str × D)) | stuck
def Out.bind {α β : Type} : Out α → (α → Out β) → Out β
  | .ok a, k => k a
  | .exc c fs, _ => .exc c fs
  | .stuck, _ => .stuck
def Out.of {α : Type} : Option α → Out α
  | some a => .ok a
  | none => .stuck

/-- an exception of the class that stands by the name c, with its one field or none -/
def ExcAt (K : PySem.W.Frag) (mg : Str → Option Value) (S : Hp) (c : Str) (fs : Option (Str × D)) (cls : Value) (dd : Option Addr) : Prop :=
  mg c = some cls ∧ match fs with
    | none => dd = none
    | some (f, d) => ∃ a v, dd = some a ∧ S a = some (.xd [(f, v)]) ∧ At K S v d

abbrev RR (α β : Type) := Hp → Hp → Hp → β → α → Prop
/-- what is known of a new value v that is d -/
def RV (K : PySem.W.Frag) (r : Bool) : RR D V := fun H S' H' v d => if r = true then OwnAt K S' H' v d ∧ ∀ a, v = .ref a → H a = none else At K S' v d
def RB : RR Bool Bool := fun _ _ _ b c => b = c
def RL (K : PySem.W.Frag) (n : Nat) : RR (List D) (List V) := fun _ S' _ vs ds => AtL K S' vs ds ∧ ds.length = n
def RR.Ok {α β : Type} (R : RR α β) : Prop := ∀ H H1 S' H' b d, (∀ a, H1 a = none → H a = none) → R H1 S' H' b d → R H S' H' b d
theorem RV.ok {K : PySem.W.Frag} {r : Bool} : (RV K r).Ok := fun H H1 S' H' b d h q => by
  cases r
  · exact q
  · exact ⟨q.1, fun a e => h a (q.2 a e)⟩
theorem RB.ok : RB.Ok := fun _ _ _ _ _ _ _ q => q
theorem RL.ok {K : PySem.W.Frag} {n : Nat} : (RL K n).Ok := fun _ _ _ _ _ _ _ q => q

/-- what is wanted behind an outcome -/
def Post {α β : Type} (X : Cx) (W : WX) (S H : Hp) (os : Os) (σ : Sg) (os' : Os) (R : RR α β) (Q : β → Hp → Prop) : Out (α × Rho) → Prop
  | .ok (d, ρ') => ∀ b S' H', Stp os σ S H os' σ S' H' → Rel X.K S' H' os' σ ρ' → R H S' H' b d → Q b H'
  | .exc c fs => ∀ S' H' cls dd, Ext (Own os σ) S H S' H' → ExcAt X.K X.mg S' c fs cls dd → W cls dd σ H'
  | .stuck => False

section
variable {X : Cx} {W : WX} {α β γ : Type} {S H S1 H1 : Hp} {os os1 os2 : Os} {σ : Sg} {R : RR α β} {Q : β → Hp → Prop}
theorem Post.step (hR : R.Ok) {x : Out (α × Rho)} (p : Post X W S H os σ os2 R Q x) (s : Stp os σ S H os1 σ S1 H1) : Post X W S1 H1 os1 σ os2 R Q x := by
  cases x with
  | ok z => exact fun b S' H' s' r q => p b S' H' (s.trans s') r (hR _ _ _ _ _ _ s.ext.there q)
  | exc c fs => exact fun S' H' cls dd e q => p S' H' cls dd (s.ext.trans e s.own) q
  | stuck => exact p
theorem Post.seq {F : Out γ → Prop} {x : Out (α × Rho)} {k : α × Rho → Out γ} (P : F (x.bind k)) (hs : ¬ F .stuck)
    (he : ∀ c fs, F (.exc c fs) → ∀ S' H' cls dd, Ext (Own os σ) S H S' H' → ExcAt X.K X.mg S' c fs cls dd → W cls dd σ H')
    (h : ∀ d ρ1 b S1 H1, Stp os σ S H os1 σ S1 H1 → Rel X.K S1 H1 os1 σ ρ1 → R H S1 H1 b d → F (k (d, ρ1)) → Q b H1) : Post X W S H os σ os1 R Q x := by
  cases x with
  | ok z => exact fun b S' H' s' r q => h z.1 z.2 b S' H' s' r q P
  | exc c fs => exact he c fs P
  | stuck => exact hs P
/-- the end of a chain -/
theorem Post.fin {os' : Os} {d : α} {ρ1 : Rho} {b : β} (P : Post X W S1 H1 os1 σ os1 R Q (.ok (d, ρ1))) (rel : Rel X.K S1 H1 os1 σ ρ1) (q : R H1 S1 H1 b d) : Q b H1 :=
  P b S1 H1 (Stp.refl rel.sub) rel q
end

/-! ### the judgements -/
def VE (X : Cx) (W : WX) (os : Os) (e : Expr) (f : Rho → Out (D × Rho)) (os' : Os) (r : Bool) : Prop :=
  ∃ t, PE X e t ∧ ∀ S σ H ρ Q, Rel X.K S H os σ ρ → Post X W S H os σ os' (RV X.K r) Q (f ρ) → t σ H Q
def VT (X : Cx) (W : WX) (os : Os) (e : Expr) (f : Rho → Out (Bool × Rho)) (os' : Os) : Prop :=
  ∃ t, PT X e t ∧ ∀ S σ H ρ Q, Rel X.K S H os σ ρ → Post X W S H os σ os' RB Q (f ρ) → t σ H Q
def VW (X : Cx) (W : WX) (os : Os) (e : Expr) (f : Rho → Out (Bool × Rho)) (os' : Os) : Prop :=
  ∃ t, PW X e t ∧ ∀ S σ H ρ Q, Rel X.K S H os σ ρ → Post X W S H os σ os' RB Q (f ρ) → t σ H Q
def VA (X : Cx) (W : WX) (os : Os) (es : List Expr) (f : Rho → Out (List D × Rho)) (os' : Os) : Prop :=
  ∃ t, PA X es t ∧ ∀ S σ H ρ Q, Rel X.K S H os σ ρ → Post X W S H os σ os' (RL X.K es.length) Q (f ρ) → t σ H Q

/-! ### their plain functions -/
def eVar (i : Nat) : Rho → Out (D × Rho) := fun ρ => match ρ.getD i none with
  | some d => .ok (d, ρ)
  | none => .stuck
def eCon (d : D) : Rho → Out (D × Rho) := fun ρ => .ok (d, ρ)
def eOp2 (g : D → D → Option D) (f1 f2 : Rho → Out (D × Rho)) : Rho → Out (D × Rho) := fun ρ =>
  (f1 ρ).bind fun p => (f2 p.2).bind fun q => (Out.of (g p.1 q.1)).bind fun c => .ok (c, q.2)
def eOp1 (g : D → Option D) (f1 : Rho → Out (D × Rho)) : Rho → Out (D × Rho) := fun ρ =>
  (f1 ρ).bind fun p => (Out.of (g p.1)).bind fun c => .ok (c, p.2)
def aNil : Rho → Out (List D × Rho) := fun ρ => .ok ([], ρ)
def aCons (f : Rho → Out (D × Rho)) (g : Rho → Out (List D × Rho)) : Rho → Out (List D × Rho) := fun ρ =>
  (f ρ).bind fun p => (g p.2).bind fun q => .ok (p.1 :: q.1, q.2)
def eTup (g : Rho → Out (List D × Rho)) : Rho → Out (D × Rho) := fun ρ => (g ρ).bind fun p => .ok (.tup p.1, p.2)
def eLst (g : Rho → Out (List D × Rho)) : Rho → Out (D × Rho) := fun ρ => (g ρ).bind fun p => .ok (.lst p.1, p.2)
/-- a built-in that gives a value of its arguments alone -/
def eArg (h : List D → Option D) (g : Rho → Out (List D × Rho)) : Rho → Out (D × Rho) := fun ρ =>
  (g ρ).bind fun p => (Out.of (h p.1)).bind fun c => .ok (c, p.2)
def eIf (c : Rho → Out (Bool × Rho)) (f g : Rho → Out (D × Rho)) : Rho → Out (D × Rho) := fun ρ => (c ρ).bind fun p => if p.1 = true then f p.2 else g p.2
def tVal (f : Rho → Out (D × Rho)) : Rho → Out (Bool × Rho) := fun ρ => (f ρ).bind fun p => match p.1 with
  | .bl b => .ok (b, p.2)
  | _ => .stuck
def tNotF (f : Rho → Out (Bool × Rho)) : Rho → Out (Bool × Rho) := fun ρ => (f ρ).bind fun p => .ok (!p.1, p.2)
def tAndF (f g : Rho → Out (Bool × Rho)) : Rho → Out (Bool × Rho) := fun ρ => (f ρ).bind fun p => if p.1 = true then g p.2 else .ok (false, p.2)
def tOrF (f g : Rho → Out (Bool × Rho)) : Rho → Out (Bool × Rho) := fun ρ => (f ρ).bind fun p => if p.1 = true then .ok (true, p.2) else g p.2
def eB (f : Rho → Out (Bool × Rho)) : Rho → Out (D × Rho) := fun ρ => (f ρ).bind fun p => .ok (.bl p.1, p.2)

/-! ### rules -/
theorem getD_le {fx os : Os} (h : (List.range fx.length).all (fun i => !fx.getD i false || os.getD i false) = true) {i : Nat} (hf : fx.getD i false = true) : os.getD i false = true := by
  have hi : i < fx.length := by
    rcases Nat.lt_or_ge i fx.length with h1 | h1
    · exact h1
    · rw [List.getD, List.getElem?_eq_none h1] at hf; cases hf
  have q := List.all_eq_true.mp h i (List.mem_range.mpr hi)
  rw [hf] at q
  simpa using q
/-- the slots of the first own by the second -/
abbrev Le (fx os : Os) : Prop := (List.range fx.length).all (fun i => !fx.getD i false || os.getD i false) = true
section
variable {X : Cx} {W : WX} {os os1 os2 os3 : Os} {e e1 e2 : Expr} {f f1 f2 : Rho → Out (D × Rho)} {pos : Pos} {r r1 r2 : Bool}

theorem ve_var (i : Nat) {x : Str} (hN : X.N[i]? = some x := by rfl) (hv : Vis X.env.scope x := by first | exact Or.inl rfl | exact Or.inr (Or.inl rfl) | exact Or.inr (Or.inr rfl)) (ho : os.getD i false = false := by rfl)
    (hd : (x == ("__debug__" : Str)) = false := by decide) (hcd : (x == ("__classdict__" : Str)) = false := by decide) : VE X W os (.Name x pos) (eVar i) os false := by
  refine ⟨_, pe_var hN hv hd hcd, fun S σ H ρ Q rel P => ?_⟩
  unfold eVar at P
  cases h : ρ.getD i none with
  | none => rw [h] at P; exact P.elim
  | some d =>
    rw [h] at P
    have e : ρ[i]? = some (some d) := by
      cases q : ρ[i]? with
      | none => simp [List.getD, q] at h
      | some y => simp [List.getD, q] at h; rw [h]
    obtain ⟨v, ev, hat⟩ := rel.val e ho
    exact ⟨v, ev, P.fin (os' := os) rel hat⟩
/-- an owning name is read as a value: it stands from now on -/
theorem ve_varF (i : Nat) {x : Str} (hN : X.N[i]? = some x := by rfl) (hv : Vis X.env.scope x := by first | exact Or.inl rfl | exact Or.inr (Or.inl rfl) | exact Or.inr (Or.inr rfl)) (ho : os.getD i false = true := by rfl)
    (hd : (x == ("__debug__" : Str)) = false := by decide) (hcd : (x == ("__classdict__" : Str)) = false := by decide) : VE X W os (.Name x pos) (eVar i) (os.set i false) false := by
  refine ⟨_, pe_var hN hv hd hcd, fun S σ H ρ Q rel P => ?_⟩
  unfold eVar at P
  cases h : ρ.getD i none with
  | none => rw [h] at P; exact P.elim
  | some d =>
    rw [h] at P
    have e : ρ[i]? = some (some d) := by
      cases q : ρ[i]? with
      | none => simp [List.getD, q] at h
      | some y => simp [List.getD, q] at h; rw [h]
    obtain ⟨v, ev, _⟩ := rel.own e ho
    obtain ⟨S', _, rel', st, k⟩ := freeze1 rel i
    exact ⟨v, ev, P v S' H st rel' (k v d ho ev e)⟩
theorem ve_int {i j} : VE X W os (.Constant (.int i) j pos) (eCon (.int i)) os false := ⟨_, pe_int, fun S σ H ρ Q rel P => P.fin (os' := os) rel (.int i)⟩
theorem ve_bl {b j} : VE X W os (.Constant (.bool b) j pos) (eCon (.bl b)) os false := ⟨_, pe_bl, fun S σ H ρ Q rel P => P.fin (os' := os) rel (.bl b)⟩
theorem ve_non {j} : VE X W os (.Constant .none j pos) (eCon .non) os false := ⟨_, pe_non, fun S σ H ρ Q rel P => P.fin (os' := os) rel .non⟩
theorem ve_str {x j} : VE X W os (.Constant (.str x) j pos) (eCon (.str x)) os false := ⟨_, pe_str, fun S σ H ρ Q rel P => P.fin (os' := os) rel (.str x)⟩
/-- a module's constant -/
theorem ve_glob {x : Str} {v : V} {u : Value} {d : D} (hm : X.mg x = some u) (hr : RelV v u) (hat : ∀ S, At X.K S v d) (hg : Gl X x := by rfl) (hd : (x == ("__debug__" : Str)) = false := by decide) : VE X W os (.Name x pos) (eCon d) os false :=
  ⟨_, pe_glob hg hm hr hd, fun S σ H ρ Q rel P => P.fin (os' := os) rel (hat _)⟩

/-- an operator on two values, by data -/
def Op2 (X : Cx) (f : Value → Value → Sem Value) (g : D → D → Option D) : Prop :=
  ∃ r, OpR X f r ∧ ∀ S H x y a b c Q, Same S H → At X.K S x a → At X.K S y b → g a b = some c → (∀ v S' H', Ext (fun _ => False) S H S' H' → At X.K S' v c → Q v H') → r x y H Q
def Op1 (X : Cx) (f : Value → Sem Value) (g : D → Option D) : Prop :=
  ∃ r, UnR X f r ∧ ∀ S H x a c Q, Same S H → At X.K S x a → g a = some c → (∀ v S' H', Ext (fun _ => False) S H S' H' → At X.K S' v c → Q v H') → r x H Q

theorem Stp.of_ext {os : Os} {σ : Sg} {S H S' H' : Hp} (x : Ext (fun _ => False) S H S' H') : Stp os σ S H os σ S' H' := ⟨x.weak fun _ z => z.elim, fun _ q => .inl q⟩
theorem Rel.ext0 {K : PySem.W.Frag} {os : Os} {σ : Sg} {ρ : Rho} {S H S' H' : Hp} (r : Rel K S H os σ ρ) (x : Ext (fun _ => False) S H S' H') : Rel K S' H' os σ ρ := r.grow x fun _ _ z => z

theorem post_of {g : Option D} {S H : Hp} {os : Os} {σ : Sg} {ρ : Rho} {Q : VK} (P : Post X W S H os σ os (RV X.K false) Q ((Out.of g).bind fun c => .ok (c, ρ))) (rel : Rel X.K S H os σ ρ) :
    ∃ c, g = some c ∧ ∀ v S' H', Ext (fun _ => False) S H S' H' → At X.K S' v c → Q v H' := by
  cases g with
  | none => exact P.elim
  | some c => exact ⟨c, rfl, fun v S' H' x hat => P v S' H' (Stp.of_ext x) (rel.ext0 x) hat⟩

theorem ve_bin {op : Operator} {g : D → D → Option D} (ho : Op2 X (binaryOp op) g) (ha : VE X W os e1 f1 os1 false) (hb : VE X W os1 e2 f2 os2 false) : VE X W os (.BinOp e1 op e2 pos) (eOp2 g f1 f2) os2 false := by
  obtain ⟨ta, pa, ka⟩ := ha
  obtain ⟨tb, pb, kb⟩ := hb
  obtain ⟨rr, po, ko⟩ := ho
  refine ⟨_, pe_op po pa pb, fun S σ H ρ Q rel P => ?_⟩
  refine ka S σ H ρ _ rel (Post.seq P (fun z => z) (fun c fs p => p) fun d ρ1 v S1 H1 st1 rel1 q1 P1 => ?_)
  have P1 := P1.step RV.ok st1
  refine kb S1 σ H1 ρ1 _ rel1 (Post.seq P1 (fun z => z) (fun c fs p => p) fun d2 ρ2 v2 S2 H2 st2 rel2 q2 P2 => ?_)
  obtain ⟨c, hc, k⟩ := post_of (P2.step RV.ok st2) rel2
  exact ko S2 H2 v v2 d d2 c _ rel2.sub (At.mono st2.ext.s q1) q2 hc k
theorem ve_un {op : UnaryOp} {g : D → Option D} (ho : Op1 X (unaryOp op) g) (ha : VE X W os e1 f1 os1 false) : VE X W os (.UnaryOp op e1 pos) (eOp1 g f1) os1 false := by
  obtain ⟨ta, pa, ka⟩ := ha
  obtain ⟨rr, po, ko⟩ := ho
  refine ⟨_, pe_un po pa, fun S σ H ρ Q rel P => ?_⟩
  refine ka S σ H ρ _ rel (Post.seq P (fun z => z) (fun c fs p => p) fun d ρ1 v S1 H1 st1 rel1 q1 P1 => ?_)
  obtain ⟨c, hc, k⟩ := post_of (P1.step RV.ok st1) rel1
  exact ko S1 H1 v d c _ rel1.sub q1 hc k
theorem ve_cmp {op : CmpOp} {g : D → D → Option D} (ho : Op2 X (compareOp op) g) (ha : VE X W os e1 f1 os1 false) (hb : VE X W os1 e2 f2 os2 false) (hm : behindInMarks op e2 = false := by first | exact nomark _ | rfl) :
    VE X W os (.Compare e1 [op] [e2] pos) (eOp2 g f1 f2) os2 false := by
  obtain ⟨ta, pa, ka⟩ := ha
  obtain ⟨tb, pb, kb⟩ := hb
  obtain ⟨rr, po, ko⟩ := ho
  refine ⟨_, pe_cmpR po pa pb hm, fun S σ H ρ Q rel P => ?_⟩
  refine ka S σ H ρ _ rel (Post.seq P (fun z => z) (fun c fs p => p) fun d ρ1 v S1 H1 st1 rel1 q1 P1 => ?_)
  have P1 := P1.step RV.ok st1
  refine kb S1 σ H1 ρ1 _ rel1 (Post.seq P1 (fun z => z) (fun c fs p => p) fun d2 ρ2 v2 S2 H2 st2 rel2 q2 P2 => ?_)
  obtain ⟨c, hc, k⟩ := post_of (P2.step RV.ok st2) rel2
  exact ko S2 H2 v v2 d d2 c _ rel2.sub (At.mono st2.ext.s q1) q2 hc k

/-! ### argument lists, displays -/
theorem va_nil : VA X W os [] aNil os := ⟨_, pa_nil, fun S σ H ρ Q rel P => P.fin (os' := os) rel ⟨.nil, rfl⟩⟩
theorem va_cons {es : List Expr} {g : Rho → Out (List D × Rho)} (ha : VE X W os e f os1 false) (hb : VA X W os1 es g os2) (hs : starEach (e :: es) X.env = (false, eval e X.env) :: starEach es X.env := by rfl) :
    VA X W os (e :: es) (aCons f g) os2 := by
  obtain ⟨ta, pa, ka⟩ := ha
  obtain ⟨tb, pb, kb⟩ := hb
  refine ⟨_, pa_cons pa pb hs, fun S σ H ρ Q rel P => ?_⟩
  refine ka S σ H ρ _ rel (Post.seq P (fun z => z) (fun c fs p => p) fun d ρ1 v S1 H1 st1 rel1 q1 P1 => ?_)
  have P1 := P1.step RL.ok st1
  refine kb S1 σ H1 ρ1 _ rel1 (Post.seq P1 (fun z => z) (fun c fs p => p) fun d2 ρ2 v2 S2 H2 st2 rel2 q2 P2 => ?_)
  exact (P2.step RL.ok st2).fin (os' := os2) rel2 ⟨.cons (At.mono st2.ext.s q1) q2.1, by rw [List.length_cons, List.length_cons, q2.2]⟩
theorem sz1000 {n : Nat} (h : n ≤ 1000) : n ≤ sizeLine := Nat.le_of_lt (small1000 h)
theorem ve_tup {es : List Expr} {g : Rho → Out (List D × Rho)} {x1} (ha : VA X W os es g os1) (hz : es.length ≤ 1000 := by decide) : VE X W os (.Tuple es x1 pos) (eTup g) os1 false := by
  obtain ⟨ta, pa, ka⟩ := ha
  refine ⟨_, pe_tup pa, fun S σ H ρ Q rel P => ?_⟩
  refine ka S σ H ρ _ rel (Post.seq P (fun z => z) (fun c fs p => p) fun d ρ1 vs S1 H1 st1 rel1 q1 P1 => ?_)
  refine ⟨by rw [q1.1.length, q1.2]; exact sz1000 hz, fun p np => ?_⟩
  have x := Ext.new (O := fun _ => False) (o := .tup vs) rel1.sub np
  exact (P1.step RV.ok st1) _ _ _ (Stp.of_ext x) (rel1.ext0 x) (.tup (.inl (.inl upd_same)) (by rw [q1.2]; exact sz1000 hz) (q1.1.mono x.s))
/-- a new list is told: it stands from now on -/
theorem VE.fz (ha : VE X W os e f os1 true) (hle : Le os1 os := by rfl) : VE X W os e f os1 false := by
  obtain ⟨ta, pa, ka⟩ := ha
  refine ⟨_, pa, fun S σ H ρ Q rel P => ?_⟩
  refine ka S σ H ρ _ rel ?_
  cases h : f ρ with
  | exc c fs => rw [h] at P; exact P
  | stuck => rw [h] at P; exact P
  | ok z =>
    obtain ⟨d, ρ1⟩ := z
    rw [h] at P
    intro v S1 H1 st1 rel1 q1
    have q1 : OwnAt X.K S1 H1 v d ∧ ∀ a, v = .ref a → H a = none := q1
    obtain ⟨⟨a, e, n, qq⟩, fr⟩ := q1
    subst e
    have na := fr a rfl
    have key : ∀ o, H1 a = some o → (Same S1 (upd S1 a o) → At X.K (upd S1 a o) (.ref a) d) → Q (.ref a) H1 := fun o eh hat => by
      have sm : Same S1 (upd S1 a o) := fun b x e => by
        have hb : b ≠ a := fun z => by rw [z, n] at e; cases e
        rw [upd_ne hb]; exact e
      have sh : Same (upd S1 a o) H1 := fun b x e => by
        by_cases hb : b = a
        · subst hb; rw [upd_same] at e; rw [eh]; exact e
        · rw [upd_ne hb] at e; exact rel1.sub b x e
      have hno : ∀ j, os1.getD j false = true → σ[j]? ≠ some (some (.ref a)) := fun j hj hs => by
        obtain ⟨_, o, eo⟩ := rel.owned ⟨j, getD_le hle hj, hs⟩
        rw [na] at eo
        cases eo
      refine P (.ref a) (upd S1 a o) H1 ⟨⟨st1.ext.s.trans sm, sh, fun b x e nb no => ?_, st1.ext.there⟩, st1.own⟩ ⟨sh, rel1.len, fun j x y e1 e2 => ?_, rel1.sep⟩ (hat sm)
      · obtain ⟨e1, n1⟩ := st1.ext.fr b x e nb no
        rw [upd_ne (ne_of_none e na)]
        exact ⟨e1, n1⟩
      · have q := rel1.slot j x y e1 e2
        cases hoj : os1.getD j false <;> rw [hoj] at q <;> cases x <;> cases y <;> simp only [SlotAt] at q ⊢
        · exact q.mono sm
        · obtain ⟨b, eb, nb, q⟩ := q
          subst eb
          have hb : b ≠ a := fun z => hno j hoj (by rw [e1, z])
          refine ⟨b, rfl, by rw [upd_ne hb]; exact nb, ?_⟩
          obtain ⟨o', eh', bd⟩ := q
          exact ⟨o', eh', bd.mono sm⟩
    obtain ⟨o, eh, bd⟩ := qq
    exact key _ eh fun sm => (bd.mono sm).at upd_same
/-- a list display -/
theorem ve_lstO {es : List Expr} {g : Rho → Out (List D × Rho)} (ha : VA X W os es g os1) (hz : es.length ≤ 1000 := by decide) : VE X W os (.List es pos) (eLst g) os1 true := by
  obtain ⟨ta, pa, ka⟩ := ha
  refine ⟨_, pe_lst pa, fun S σ H ρ Q rel P => ?_⟩
  refine ka S σ H ρ _ rel (Post.seq P (fun z => z) (fun c fs p => p) fun d ρ1 vs S1 H1 st1 rel1 q1 P1 => ?_)
  refine ⟨by rw [q1.1.length, q1.2]; exact sz1000 hz, fun p np => ?_⟩
  have x := Ext.newO (O := fun _ => False) (o := .lst vs) rel1.sub np
  exact (P1.step RV.ok st1) _ _ _ (Stp.of_ext x) (rel1.ext0 x) ⟨.mkL (rel1.sub.free np) upd_same (by rw [q1.2]; exact sz1000 hz) (q1.1), fun a e => by cases e; exact np⟩

/-! ### tests -/
theorem vt_val (ha : VE X W os e f os1 false) (he : ∀ whole, isTrue e X.env whole = (do let v ← whole; standAt e.pos; holding [v] (truthy v)) := by intro _; rfl) : VT X W os e (tVal f) os1 := by
  obtain ⟨ta, pa, ka⟩ := ha
  refine ⟨_, pt_val pa he, fun S σ H ρ Q rel P => ?_⟩
  refine ka S σ H ρ _ rel (Post.seq P (fun z => z) (fun c fs p => p) fun d ρ1 v S1 H1 st1 rel1 q1 P1 => ?_)
  cases q1 with
  | bl b => exact ⟨b, rfl, (P1.step RB.ok st1).fin (os' := os1) rel1 rfl⟩
  | _ => exact P1.elim
theorem vt_cmp {op : CmpOp} {g : D → D → Option D} (ho : Op2 X (compareOp op) g) (ha : VE X W os e1 f1 os1 false) (hb : VE X W os1 e2 f2 os2 false) (hm : behindInMarks op e2 = false := by first | exact nomark _ | rfl) :
    VT X W os (.Compare e1 [op] [e2] pos) (tVal (eOp2 g f1 f2)) os2 := by
  obtain ⟨ta, pa, ka⟩ := ha
  obtain ⟨tb, pb, kb⟩ := hb
  obtain ⟨rr, po, ko⟩ := ho
  refine ⟨_, pt_cmpR po pa pb hm, fun S σ H ρ Q rel P => ?_⟩
  have P : Post X W S H os σ os2 RB Q ((f1 ρ).bind fun p => ((f2 p.2).bind fun q => (Out.of (g p.1 q.1)).bind fun c => Out.ok (c, q.2)).bind fun p => match p.1 with
    | .bl b => Out.ok (b, p.2)
    | _ => Out.stuck) := by
    unfold tVal eOp2 at P
    cases h : f1 ρ <;> rw [h] at P <;> exact P
  refine ka S σ H ρ _ rel (Post.seq P (fun z => z) (fun c fs p => p) fun d ρ1 v S1 H1 st1 rel1 q1 P1 => ?_)
  have P1 := P1.step RB.ok st1
  have P1 : Post X W S1 H1 os1 σ os2 RB Q ((f2 ρ1).bind fun q => ((Out.of (g d q.1)).bind fun c => Out.ok (c, q.2)).bind fun p => match p.1 with
    | .bl b => Out.ok (b, p.2)
    | _ => Out.stuck) := by
    dsimp only at P1
    cases h : f2 ρ1 <;> rw [h] at P1 <;> exact P1
  refine kb S1 σ H1 ρ1 _ rel1 (Post.seq P1 (fun z => z) (fun c fs p => p) fun d2 ρ2 v2 S2 H2 st2 rel2 q2 P2 => ?_)
  have P2 := P2.step RB.ok st2
  dsimp only at P2
  cases hc : g d d2 with
  | none => rw [hc] at P2; exact P2.elim
  | some c =>
    rw [hc] at P2
    refine ko S2 H2 v v2 d d2 c _ rel2.sub (At.mono st2.ext.s q1) q2 hc fun v' S' H' x hat => ?_
    cases hat with
    | bl b => exact ⟨b, rfl, P2 b S' H' (Stp.of_ext x) (rel2.ext0 x) rfl⟩
    | _ => exact P2.elim
theorem VW.vt {g : Rho → Out (Bool × Rho)} (h : VW X W os e g os1) : VT X W os e g os1 := by
  obtain ⟨t, p, k⟩ := h
  exact ⟨t, p.pt, k⟩
section
variable {g g1 g2 : Rho → Out (Bool × Rho)} {a b : Expr} {rest : List Expr}
theorem vt_not (h : VT X W os a g os1) : VT X W os (.UnaryOp .Not a pos) (tNotF g) os1 := by
  obtain ⟨t, p, k⟩ := h
  refine ⟨_, pt_not p, fun S σ H ρ Q rel P => ?_⟩
  refine k S σ H ρ _ rel (Post.seq P (fun z => z) (fun c fs p => p) fun d ρ1 v S1 H1 st1 rel1 q1 P1 => ?_)
  cases q1
  exact (P1.step RB.ok st1).fin (os' := os1) rel1 rfl
theorem vw_and1 (h : VT X W os a g os1) : VW X W os (.BoolOp .And [a] pos) g os1 := by
  obtain ⟨t, p, k⟩ := h
  exact ⟨t, pw_and1 p, k⟩
theorem vw_or1 (h : VT X W os a g os1) : VW X W os (.BoolOp .Or [a] pos) g os1 := by
  obtain ⟨t, p, k⟩ := h
  exact ⟨t, pw_or1 p, k⟩
theorem vw_and (h : VT X W os a g1 os) (h2 : VW X W os (.BoolOp .And (b :: rest) pos) g2 os) : VW X W os (.BoolOp .And (a :: b :: rest) pos) (tAndF g1 g2) os := by
  obtain ⟨t, p, k⟩ := h
  obtain ⟨t2, p2, k2⟩ := h2
  refine ⟨_, pw_and p p2, fun S σ H ρ Q rel P => ?_⟩
  refine k S σ H ρ _ rel (Post.seq P (fun z => z) (fun c fs p => p) fun d ρ1 v S1 H1 st1 rel1 q1 P1 => ?_)
  cases q1
  cases d with
  | true => exact k2 S1 σ H1 ρ1 Q rel1 (Post.step RB.ok P1 st1)
  | false => exact (Post.step RB.ok P1 st1).fin (os' := os) rel1 rfl
theorem vw_or (h : VT X W os a g1 os) (h2 : VW X W os (.BoolOp .Or (b :: rest) pos) g2 os) : VW X W os (.BoolOp .Or (a :: b :: rest) pos) (tOrF g1 g2) os := by
  obtain ⟨t, p, k⟩ := h
  obtain ⟨t2, p2, k2⟩ := h2
  refine ⟨_, pw_or p p2, fun S σ H ρ Q rel P => ?_⟩
  refine k S σ H ρ _ rel (Post.seq P (fun z => z) (fun c fs p => p) fun d ρ1 v S1 H1 st1 rel1 q1 P1 => ?_)
  cases q1
  cases d with
  | true => exact (Post.step RB.ok P1 st1).fin (os' := os) rel1 rfl
  | false => exact k2 S1 σ H1 ρ1 Q rel1 (Post.step RB.ok P1 st1)
/-! and, or, not as values (truths) -/
def eAndF (f g : Rho → Out (D × Rho)) : Rho → Out (D × Rho) := fun ρ => (f ρ).bind fun p => match p.1 with
  | .bl true => g p.2
  | .bl false => .ok (.bl false, p.2)
  | _ => .stuck
def eOrF (f g : Rho → Out (D × Rho)) : Rho → Out (D × Rho) := fun ρ => (f ρ).bind fun p => match p.1 with
  | .bl true => .ok (.bl true, p.2)
  | .bl false => g p.2
  | _ => .stuck
def eNotF (f : Rho → Out (D × Rho)) : Rho → Out (D × Rho) := fun ρ => (f ρ).bind fun p => match p.1 with
  | .bl b => .ok (.bl (!b), p.2)
  | _ => .stuck
theorem ve_one {op} (h : VE X W os a f os1 false) : VE X W os (.BoolOp op [a] pos) f os1 false := by
  obtain ⟨t, p, k⟩ := h
  exact ⟨t, pe_one p, k⟩
theorem ve_and (h : VE X W os a f1 os false) (h2 : VE X W os (.BoolOp .And (b :: rest) pos) f2 os false) : VE X W os (.BoolOp .And (a :: b :: rest) pos) (eAndF f1 f2) os false := by
  obtain ⟨t, p, k⟩ := h
  obtain ⟨t2, p2, k2⟩ := h2
  refine ⟨_, pe_and p p2, fun S σ H ρ Q rel P => ?_⟩
  refine k S σ H ρ _ rel (Post.seq P (fun z => z) (fun c fs p => p) fun d ρ1 v S1 H1 st1 rel1 q1 P1 => ?_)
  cases q1 with
  | bl c =>
    cases c with
    | true => exact ⟨true, rfl, k2 S1 σ H1 ρ1 Q rel1 (Post.step RV.ok P1 st1)⟩
    | false => exact ⟨false, rfl, (Post.step RV.ok P1 st1).fin (os' := os) rel1 (.bl false)⟩
  | _ => exact P1.elim
theorem ve_not (h : VE X W os a f os1 false) : VE X W os (.UnaryOp .Not a pos) (eNotF f) os1 false := by
  obtain ⟨t, p, k⟩ := h
  refine ⟨_, pe_not p, fun S σ H ρ Q rel P => ?_⟩
  refine k S σ H ρ _ rel (Post.seq P (fun z => z) (fun c fs p => p) fun d ρ1 v S1 H1 st1 rel1 q1 P1 => ?_)
  cases q1 with
  | bl c => exact ⟨c, rfl, (Post.step RV.ok P1 st1).fin (os' := os1) rel1 (.bl _)⟩
  | _ => exact P1.elim
end
end
end SW

set_option maxRecDepth 100000
/-! SW3: what a def promises by data (spec), calls, statements, targets, a def by its body. -/
namespace SW
open PySem PySem.Spec PyProof.Rows L2

/-! ### slots stored -/
section
variable {K : PySem.W.Frag} {S S' H H' : Hp} {os os' : Os} {σ σ' : Sg} {ρ ρ' : Rho} {i : Nat} {v : V} {d : D}
theorem getD_set {os : Os} {i j : Nat} {b : Bool} : (os.set i b).getD j false = true → (j ≠ i ∧ os.getD j false = true) ∨ (j = i ∧ b = true) := fun h => by
  by_cases e : i = j
  · subst e
    refine .inr ⟨rfl, ?_⟩
    by_cases hl : i < os.length
    · simpa [List.getD, hl] using h
    · rw [List.getD, List.getElem?_eq_none (by rw [List.length_set]; omega)] at h; cases h
  · rw [getD_set_ne e] at h; exact .inl ⟨fun z => e z.symm, h⟩
theorem own_set {a : Addr} (h : Own (os.set i false) (σ.set i (some v)) a) : Own os σ a := by
  obtain ⟨j, h1, h2⟩ := h
  rcases getD_set h1 with ⟨hj, h1⟩ | ⟨_, z⟩
  · rw [List.getElem?_set_ne (fun z => hj z.symm)] at h2; exact ⟨j, h1, h2⟩
  · cases z
theorem Rel.set (r : Rel K S H os σ ρ) (hv : At K S v d) (i : Nat) : Rel K S H (os.set i false) (σ.set i (some v)) (ρ.set i (some d)) where
  sub := r.sub
  len := by rw [List.length_set, List.length_set]; exact r.len
  slot := fun j x y e1 e2 => by
    by_cases hj : i = j
    · subst hj
      have hl : i < σ.length := by
        have := (List.getElem?_eq_some_iff.mp e1).1
        rwa [List.length_set] at this
      rw [List.getElem?_set_self hl] at e1
      rw [List.getElem?_set_self (by rw [← r.len]; exact hl)] at e2
      cases e1; cases e2
      rw [getD_set_self]; exact hv
    · rw [List.getElem?_set_ne hj] at e1 e2
      rw [getD_set_ne hj]; exact r.slot j x y e1 e2
  sep := fun j k a h1 h2 e1 e2 => by
    rcases getD_set h1 with ⟨hj, h1⟩ | ⟨_, z⟩
    · rcases getD_set h2 with ⟨hk, h2⟩ | ⟨_, z⟩
      · rw [List.getElem?_set_ne (fun z => hj z.symm)] at e1
        rw [List.getElem?_set_ne (fun z => hk z.symm)] at e2
        exact r.sep j k a h1 h2 e1 e2
      · cases z
    · cases z
theorem Rel.setO (r : Rel K S H os σ ρ) (hv : OwnAt K S H v d) (hn : ∀ a, v = .ref a → ∀ j, j ≠ i → os.getD j false = true → σ[j]? ≠ some (some (.ref a))) (hi : i < os.length) : Rel K S H (os.set i true) (σ.set i (some v)) (ρ.set i (some d)) where
  sub := r.sub
  len := by rw [List.length_set, List.length_set]; exact r.len
  slot := fun j x y e1 e2 => by
    by_cases hj : i = j
    · subst hj
      have hl : i < σ.length := by
        have := (List.getElem?_eq_some_iff.mp e1).1
        rwa [List.length_set] at this
      rw [List.getElem?_set_self hl] at e1
      rw [List.getElem?_set_self (by rw [← r.len]; exact hl)] at e2
      cases e1; cases e2
      have e : (os.set i true).getD i false = true := by simp [List.getD, hi]
      rw [e]; exact hv
    · rw [List.getElem?_set_ne hj] at e1 e2
      rw [getD_set_ne hj]; exact r.slot j x y e1 e2
  sep := fun j k a h1 h2 e1 e2 => by
    rcases getD_set h1 with ⟨hj, h1'⟩ | ⟨hj, _⟩
    · rw [List.getElem?_set_ne (fun z => hj z.symm)] at e1
      rcases getD_set h2 with ⟨hk, h2'⟩ | ⟨hk, _⟩
      · rw [List.getElem?_set_ne (fun z => hk z.symm)] at e2
        exact r.sep j k a h1' h2' e1 e2
      · subst hk
        have hl : k < σ.length := by
          have := (List.getElem?_eq_some_iff.mp e2).1
          rwa [List.length_set] at this
        rw [List.getElem?_set_self hl] at e2
        cases e2
        exact (hn a rfl j hj h1' e1).elim
    · rcases getD_set h2 with ⟨hk, h2'⟩ | ⟨hk, _⟩
      · rw [List.getElem?_set_ne (fun z => hk z.symm)] at e2
        subst hj
        have hl : j < σ.length := by
          have := (List.getElem?_eq_some_iff.mp e1).1
          rwa [List.length_set] at this
        rw [List.getElem?_set_self hl] at e1
        cases e1
        exact (hn a rfl k hk h2' e2).elim
      · rw [hj, hk]
theorem own_setO {a : Addr} (h : Own (os.set i true) (σ.set i (some v)) a) : Own os σ a ∨ v = .ref a := by
  obtain ⟨j, h1, h2⟩ := h
  rcases getD_set h1 with ⟨hj, h1⟩ | ⟨hj, _⟩
  · rw [List.getElem?_set_ne (fun z => hj z.symm)] at h2; exact .inl ⟨j, h1, h2⟩
  · subst hj
    have hl : j < σ.length := by
      have := (List.getElem?_eq_some_iff.mp h2).1
      rwa [List.length_set] at this
    rw [List.getElem?_set_self hl] at h2
    cases h2
    exact .inr rfl
/-- the cell of an owning slot holds other data now -/
theorem Rel.turn (r : Rel K S H os σ ρ) {a : Addr} (ho : os.getD i false = true) (hs : σ[i]? = some (some (.ref a))) {o : HO} (hn : OwnAt K S (upd H a o) (.ref a) d) : Rel K S (upd H a o) os σ (ρ.set i (some d)) where
  sub := fun b x e => by
    have hb : b ≠ a := fun z => by
      obtain ⟨a', e', n, _⟩ := hn
      cases e'
      rw [z, n] at e; cases e
    rw [upd_ne hb]; exact r.sub b x e
  len := by rw [List.length_set]; exact r.len
  slot := fun j x y e1 e2 => by
    by_cases hj : i = j
    · subst hj
      rw [hs] at e1
      have hl : i < ρ.length := by
        have := (List.getElem?_eq_some_iff.mp e2).1
        rwa [List.length_set] at this
      rw [List.getElem?_set_self hl] at e2
      cases e1; cases e2
      rw [ho]; exact hn
    · rw [List.getElem?_set_ne hj] at e2
      have q := r.slot j x y e1 e2
      cases hoj : os.getD j false <;> rw [hoj] at q <;> cases x <;> cases y <;> simp only [SlotAt] at q ⊢
      · exact q
      · obtain ⟨b, eb, nb, q⟩ := q
        subst eb
        have hb : b ≠ a := fun z => hj (r.sep i j a ho hoj hs (by rw [e1, z]))
        refine ⟨b, rfl, nb, ?_⟩
        rw [upd_ne hb]; exact q
  sep := r.sep
theorem Stp.turn (r : Rel K S H os σ ρ) {a : Addr} (ho : os.getD i false = true) (hs : σ[i]? = some (some (.ref a))) {o : HO} : Stp os σ S H os σ S (upd H a o) :=
  ⟨Ext.turn r.sub (r.owned ⟨i, ho, hs⟩).1 ⟨i, ho, hs⟩, fun _ q => .inl q⟩
end

/-! ### a def's promise, by data -/
def osP : Option Nat → Os
  | none => []
  | some k => List.replicate k false ++ [true]
/-- n parameters; pm: the parameter whose list or dict the def turns; r: the told list is a new one, the asker's own; m: the value and what the turned one holds then -/
def spec (K : PySem.W.Frag) (mg : Str → Option Value) (n : Nat) (pm : Option Nat) (r : Bool) (m : List D → Out (D × D)) : Sp := fun vs H Q E =>
  vs.length = n ∧ ∃ S ds, Rel K S H (osP pm) (vs.map some) (ds.map some) ∧ match m ds with
    | .ok (d, o) => ∀ v S' H', Ext (Own (osP pm) (vs.map some)) S H S' H' → RV K r H S' H' v d → (∀ k u, pm = some k → vs[k]? = some u → OwnAt K S' H' u o) → Q v H'
    | .exc c fs => ∀ S' H' cls dd, Ext (Own (osP pm) (vs.map some)) S H S' H' → ExcAt K mg S' c fs cls dd → E cls dd H'
    | .stuck => False

theorem rel_args {K : PySem.W.Frag} {S H : Hp} {vs : List V} {ds : List D} (h : AtL K S vs ds) (sub : Same S H) : Rel K S H [] (vs.map some) (ds.map some) where
  sub := sub
  len := by rw [List.length_map, List.length_map, h.length]
  slot := fun i x y e1 e2 => by
    rw [List.getElem?_map] at e1 e2
    cases ed : ds[i]? with
    | none => rw [ed] at e2; cases e2
    | some d =>
      obtain ⟨v, ev, hat⟩ := h.get ed
      rw [ed] at e2; rw [ev] at e1
      cases e1; cases e2
      exact hat
  sep := fun i j a h1 => by simp [List.getD] at h1
theorem own_nil {σ : Sg} {a : Addr} (h : Own [] σ a) : False := by
  obtain ⟨i, h, _⟩ := h
  simp [List.getD] at h

def eCall (m : List D → Out (D × D)) (g : Rho → Out (List D × Rho)) : Rho → Out (D × Rho) := fun ρ => (g ρ).bind fun p => (m p.1).bind fun q => .ok (q.1, p.2)

section
variable {X : Cx} {W : WX} {os os1 os2 os3 : Os} {e e1 e2 : Expr} {f f1 f2 : Rho → Out (D × Rho)} {pos p : Pos} {r r1 r2 : Bool} {es : List Expr} {g : Rho → Out (List D × Rho)}
theorem ve_call {x : Str} {k : Nat} {fa : Addr} {fd : FuncData} {ps : List Str} {m : List D → Out (D × D)} (F : FnOk X.prog X.w X.K X.mg X.base (L2.CX X.prog X.w) k fa fd ps (spec X.K X.mg (es.length + 1) none r m)) (tk : Takes X W)
    (hr : Room k X.A) (hm : X.mg x = some (.ref fa)) (hk : PySem.W.keepIn X.K (.ref fa) = true) (hb : Binds X.K fd ps []) (ha : VA X W os (e :: es) g os1) (hg : Gl X x := by rfl) (hdb : (x == ("__debug__" : Str)) = false := by decide)
    (he : starEach (e :: es) X.env = (false, eval e X.env) :: starEach es X.env := by rfl) (hpl : (backTo pos (starEach es X.env)).any (·.1) = false := by rfl) :
    VE X W os (.Call (.Name x p) (e :: es) [] pos) (eCall m g) os1 r := by
  obtain ⟨ta, pa, ka⟩ := ha
  refine ⟨_, pe_callS F hr hg hm hk hb (fun σ => passAt tk σ) pa hdb he hpl, fun S σ H ρ Q rel P => ?_⟩
  refine ka S σ H ρ _ rel (Post.seq P (fun z => z) (fun c fs p => p) fun ds ρ1 vs S1 H1 st1 rel1 q1 P1 => ?_)
  have P1 := P1.step RV.ok st1
  refine ⟨by rw [q1.1.length, q1.2]; rfl, S1, ds, rel_args q1.1 rel1.sub, ?_⟩
  dsimp only at P1
  cases hmd : m ds with
  | ok z =>
    rw [hmd] at P1
    intro v S' H' x q _
    have x' : Ext (fun _ => False) S1 H1 S' H' := x.weak fun _ z => own_nil z
    exact P1 v S' H' (Stp.of_ext x') (rel1.ext0 x') q
  | exc c fs =>
    rw [hmd] at P1
    exact fun S' H' cls dd x q => P1 S' H' cls dd (x.weak fun _ z => (own_nil z).elim) q
  | stuck => rw [hmd] at P1; exact P1.elim

/-! ### calls that turn what one name holds -/
/-- the arguments' list has at place k the owning slot i itself -/
def RLB (K : PySem.W.Frag) (σ : Sg) (n k i : Nat) : RR (List D) (List V) := fun _ S' _ vs ds => vs.length = n ∧ ds.length = n ∧ (∃ u, vs[k]? = some u ∧ σ[i]? = some (some u)) ∧ ∀ j d, j ≠ k → ds[j]? = some d → ∃ v, vs[j]? = some v ∧ At K S' v d
theorem RLB.ok {K : PySem.W.Frag} {σ : Sg} {n k i : Nat} : (RLB K σ n k i).Ok := fun _ _ _ _ _ _ _ q => q
def VB (X : Cx) (W : WX) (os : Os) (es : List Expr) (k i : Nat) (f : Rho → Out (List D × Rho)) (os' : Os) : Prop :=
  ∃ t, PA X es t ∧ ∀ S σ H ρ Q, Rel X.K S H os σ ρ → Post X W S H os σ os' (RLB X.K σ es.length k i) Q (f ρ) → t σ H Q
def aHole (g : Rho → Out (List D × Rho)) : Rho → Out (List D × Rho) := fun ρ => (g ρ).bind fun p => .ok (.non :: p.1, p.2)
theorem vb_here (i : Nat) {x : Str} (ha : VA X W os es g os1) (ho : os.getD i false = true := by rfl) (hN : X.N[i]? = some x := by rfl) (hv : Vis X.env.scope x := by first | exact Or.inl rfl | exact Or.inr (Or.inl rfl) | exact Or.inr (Or.inr rfl))
    (hd : (x == ("__debug__" : Str)) = false := by decide) (hcd : (x == ("__classdict__" : Str)) = false := by decide) (hs : starEach (.Name x p :: es) X.env = (false, eval (.Name x p) X.env) :: starEach es X.env := by rfl) :
    VB X W os (.Name x p :: es) 0 i (fun ρ => match ρ.getD i none with | some _ => aHole g ρ | none => .stuck) os1 := by
  obtain ⟨ta, pa, ka⟩ := ha
  refine ⟨_, pa_cons (pe_var hN hv hd hcd) pa hs, fun S σ H ρ Q rel P => ?_⟩
  cases h : ρ.getD i none with
  | none => dsimp only at P; rw [h] at P; exact P.elim
  | some d =>
    dsimp only at P; rw [h] at P
    have e : ρ[i]? = some (some d) := by
      cases q : ρ[i]? with
      | none => simp [List.getD, q] at h
      | some y => simp [List.getD, q] at h; rw [h]
    obtain ⟨v, ev, _⟩ := rel.own e ho
    refine ⟨v, ev, ?_⟩
    refine ka S σ H ρ _ rel (Post.seq P (fun z => z) (fun c fs p => p) fun ds ρ1 vs S1 H1 st1 rel1 q1 P1 => ?_)
    refine (P1.step RLB.ok st1).fin (os' := os1) rel1 ⟨by rw [List.length_cons, List.length_cons, q1.1.length, q1.2], by rw [List.length_cons, List.length_cons, q1.2], ⟨v, rfl, ev⟩, fun j d hj ed => ?_⟩
    cases j with
    | zero => exact (hj rfl).elim
    | succ j => exact q1.1.get (i := j) (by simpa using ed)
theorem vb_there {k i : Nat} (ha : VE X W os e f os1 false) (hb : VB X W os1 es k i g os2) (hs : starEach (e :: es) X.env = (false, eval e X.env) :: starEach es X.env := by rfl) : VB X W os (e :: es) (k + 1) i (aCons f g) os2 := by
  obtain ⟨ta, pa, ka⟩ := ha
  obtain ⟨tb, pb, kb⟩ := hb
  refine ⟨_, pa_cons pa pb hs, fun S σ H ρ Q rel P => ?_⟩
  refine ka S σ H ρ _ rel (Post.seq P (fun z => z) (fun c fs p => p) fun d ρ1 v S1 H1 st1 rel1 q1 P1 => ?_)
  have P1 := P1.step RLB.ok st1
  refine kb S1 σ H1 ρ1 _ rel1 (Post.seq P1 (fun z => z) (fun c fs p => p) fun d2 ρ2 v2 S2 H2 st2 rel2 q2 P2 => ?_)
  obtain ⟨h1, h2, h3, h4⟩ := q2
  refine (P2.step RLB.ok st2).fin (os' := os2) rel2 ⟨by rw [List.length_cons, List.length_cons, h1], by rw [List.length_cons, List.length_cons, h2], by simpa using h3, fun j d' hj ed => ?_⟩
  cases j with
  | zero => cases (show some d = some d' by simpa using ed); exact ⟨v, rfl, At.mono st2.ext.s q1⟩
  | succ j => simpa using h4 j d' (fun z => hj (by rw [z])) (by simpa using ed)

def eCallM (m : List D → Out (D × D)) (k i : Nat) (g : Rho → Out (List D × Rho)) : Rho → Out (D × Rho) := fun ρ => (g ρ).bind fun p => match p.2.getD i none with
  | some d => (m (p.1.set k d)).bind fun q => .ok (q.1, p.2.set i (some q.2))
  | none => .stuck
theorem osP_get {k j : Nat} : (osP (some k)).getD j false = true ↔ j = k := by
  unfold osP
  constructor
  · intro h
    by_cases h1 : j < k
    · simp [List.getD, List.getElem?_append, h1] at h
    · by_cases h2 : j = k
      · exact h2
      · rw [List.getD, List.getElem?_eq_none (by simp; omega)] at h; cases h
  · intro h
    subst h
    simp [List.getD]
theorem ve_callM {x : Str} {kk k i : Nat} {fa : Addr} {fd : FuncData} {ps : List Str} {m : List D → Out (D × D)} (F : FnOk X.prog X.w X.K X.mg X.base (L2.CX X.prog X.w) kk fa fd ps (spec X.K X.mg (es.length + 1) (some k) r m)) (tk : Takes X W)
    (hr : Room kk X.A) (hm : X.mg x = some (.ref fa)) (hk : PySem.W.keepIn X.K (.ref fa) = true) (hb : Binds X.K fd ps []) (ha : VB X W os (e :: es) k i g os1) (ho : os1.getD i false = true := by rfl) (hg : Gl X x := by rfl) (hdb : (x == ("__debug__" : Str)) = false := by decide)
    (he : starEach (e :: es) X.env = (false, eval e X.env) :: starEach es X.env := by rfl) (hpl : (backTo pos (starEach es X.env)).any (·.1) = false := by rfl) :
    VE X W os (.Call (.Name x p) (e :: es) [] pos) (eCallM m k i g) os1 r := by
  obtain ⟨ta, pa, ka⟩ := ha
  refine ⟨_, pe_callS F hr hg hm hk hb (fun σ => passAt tk σ) pa hdb he hpl, fun S σ H ρ Q rel P => ?_⟩
  refine ka S σ H ρ _ rel (Post.seq P (fun z => z) (fun c fs p => p) fun ds ρ1 vs S1 H1 st1 rel1 q1 P1 => ?_)
  have P1 := P1.step RV.ok st1
  obtain ⟨l1, l2, ⟨u, ku, eu⟩, q1⟩ := q1
  dsimp only at P1
  cases hd : ρ1.getD i none with
  | none => rw [hd] at P1; exact P1.elim
  | some d =>
    rw [hd] at P1
    dsimp only at P1
    have e1 : ρ1[i]? = some (some d) := by
      cases q : ρ1[i]? with
      | none => simp [List.getD, q] at hd
      | some y => simp [List.getD, q] at hd; rw [hd]
    obtain ⟨u', eu', hown⟩ := rel1.own e1 ho
    have eqq := eu.symm.trans eu'
    cases eqq
    have hkl : k < ds.length := by rw [l2, ← l1]; exact (List.getElem?_eq_some_iff.mp ku).1
    refine ⟨l1, S1, ds.set k d, ⟨rel1.sub, by rw [List.length_map, List.length_map, List.length_set, l1, l2], fun j x y e1 e2 => ?_, fun j j' a h1 h2 _ _ => by rw [osP_get.mp h1, osP_get.mp h2]⟩, ?_⟩
    · rw [List.getElem?_map] at e1 e2
      by_cases hj : j = k
      · subst hj
        rw [osP_get.mpr rfl]
        rw [ku] at e1
        rw [List.getElem?_set_self hkl] at e2
        cases e1; cases e2
        exact hown
      · have hf : (osP (some k)).getD j false = false := by
          cases h : (osP (some k)).getD j false
          · rfl
          · exact (hj (osP_get.mp h)).elim
        rw [hf]
        rw [List.getElem?_set_ne (fun z => hj z.symm)] at e2
        cases ed : ds[j]? with
        | none => rw [ed] at e2; cases e2
        | some d' =>
          obtain ⟨v, ev, hat⟩ := q1 j d' hj ed
          rw [ed] at e2; rw [ev] at e1
          cases e1; cases e2
          exact hat
    · have conv : ∀ a, Own (osP (some k)) (vs.map some) a → σ[i]? = some (some (.ref a)) := fun a ⟨j, h1, h2⟩ => by
        have hj := osP_get.mp h1
        subst hj
        rw [List.getElem?_map, ku] at h2
        have h3 : u = .ref a := by simpa using h2
        rw [eu, h3]
      have hsub : ∀ a, Own (osP (some k)) (vs.map some) a → Own os1 σ a := fun a h => ⟨i, ho, conv a h⟩
      cases hmd : m (ds.set k d) with
      | ok z =>
        rw [hmd] at P1
        intro v S' H' x q qo
        have qo := qo k u rfl ku
        refine P1 v S' H' ⟨x.weak hsub, fun _ q => .inl q⟩ ⟨x.sh, by rw [List.length_set]; exact rel1.len, fun j xx yy e1 e2 => ?_, rel1.sep⟩ q
        by_cases hj : i = j
        · subst hj
          have hl : i < ρ1.length := by
            have := (List.getElem?_eq_some_iff.mp e2).1
            rwa [List.length_set] at this
          rw [List.getElem?_set_self hl] at e2
          rw [eu] at e1
          cases e1; cases e2
          rw [ho]; exact qo
        · rw [List.getElem?_set_ne hj] at e2
          have qq := rel1.slot j xx yy e1 e2
          cases hoj : os1.getD j false <;> rw [hoj] at qq <;> cases xx <;> cases yy <;> simp only [SlotAt] at qq ⊢
          · exact qq.mono x.s
          · refine qq.ext x fun a ea hz => hj (rel1.sep i j a ho hoj (conv a hz) (by rw [e1, ea]))
      | exc c fs =>
        rw [hmd] at P1
        exact fun S' H' cls dd x q => P1 S' H' cls dd (x.weak hsub) q
      | stuck => rw [hmd] at P1; exact P1.elim
end
end SW

set_option maxRecDepth 100000
/-! SW4: statements: what is wanted behind them (PostS), the judgement VS, blocks, if, return, assignments, targets, a def by its body. -/
namespace SW
open PySem PySem.Spec PyProof.Rows L2

inductive Fl where
  | nx (ρ : Rho) | rt (d : D) (ρ : Rho) | bk (ρ : Rho) | ct (ρ : Rho)

/-- the slots that no statement stores -/
def FixOn (fx : Os) (σ σ' : Sg) : Prop := σ'.length = σ.length ∧ ∀ i, fx.getD i false = true → σ'[i]? = σ[i]?
theorem FixOn.refl {fx : Os} {σ : Sg} : FixOn fx σ σ := ⟨rfl, fun _ _ => rfl⟩
theorem FixOn.trans {fx : Os} {σ σ1 σ2 : Sg} (a : FixOn fx σ σ1) (b : FixOn fx σ1 σ2) : FixOn fx σ σ2 := ⟨b.1.trans a.1, fun i h => (b.2 i h).trans (a.2 i h)⟩

/-- a loop's and a def's own: where break and continue lead, what is told, which slots are fixed -/
structure Lc where
  fx : Os
  bk : Os
  ct : Os
  r : Bool

def RetAt (K : PySem.W.Frag) (r : Bool) (os : Os) (σ : Sg) (fx : Os) (H S' H' : Hp) (v : V) (d : D) : Prop :=
  if r = true then OwnAt K S' H' v d ∧ (∀ a, v = .ref a → H a = none ∨ Own os σ a) ∧ (∀ i, fx.getD i false = true → σ[i]? ≠ some (some v)) else At K S' v d

def PostS (X : Cx) (W : WX) (L : Lc) (S H : Hp) (os : Os) (σ : Sg) (osN : Os) (Ds : Ends) : Out Fl → Prop
  | .ok (.nx ρ') => ∀ σ' S' H', Stp os σ S H osN σ' S' H' → FixOn L.fx σ σ' → Rel X.K S' H' osN σ' ρ' → Ds.nx σ' H'
  | .ok (.bk ρ') => ∀ σ' S' H', Stp os σ S H L.bk σ' S' H' → FixOn L.fx σ σ' → Rel X.K S' H' L.bk σ' ρ' → Ds.bk σ' H'
  | .ok (.ct ρ') => ∀ σ' S' H', Stp os σ S H L.ct σ' S' H' → FixOn L.fx σ σ' → Rel X.K S' H' L.ct σ' ρ' → Ds.ct σ' H'
  | .ok (.rt d ρ') => ∀ v S' H', Ext (Own os σ) S H S' H' → RetAt X.K L.r os σ L.fx H S' H' v d →
      (∀ i u, L.fx.getD i false = true → σ[i]? = some (some u) → ∃ d', ρ'[i]? = some (some d') ∧ OwnAt X.K S' H' u d') → Ds.rt v H'
  | .exc c fs => ∀ σ' S' H' cls dd, Ext (Own os σ) S H S' H' → ExcAt X.K X.mg S' c fs cls dd → W cls dd σ' H'
  | .stuck => False

def VS (X : Cx) (W : WX) (L : Lc) (os : Os) (st : Stmt) (g : Rho → Out Fl) (osN : Os) : Prop :=
  ∃ t, PS X st t ∧ ∀ S σ H ρ Ds, Rel X.K S H os σ ρ → PostS X W L S H os σ osN Ds (g ρ) → t Ds σ H
def VSs (X : Cx) (W : WX) (L : Lc) (os : Os) (st : List Stmt) (g : Rho → Out Fl) (osN : Os) : Prop :=
  ∃ t, PSs X st t ∧ ∀ S σ H ρ Ds, Rel X.K S H os σ ρ → PostS X W L S H os σ osN Ds (g ρ) → t Ds σ H

section
variable {X : Cx} {W : WX} {L : Lc} {S H S1 H1 : Hp} {os os1 os2 osN : Os} {σ σ1 : Sg} {Ds : Ends}
theorem PostS.step {x : Out Fl} (p : PostS X W L S H os σ osN Ds x) (s : Stp os σ S H os1 σ1 S1 H1) (f : FixOn L.fx σ σ1) : PostS X W L S1 H1 os1 σ1 osN Ds x := by
  cases x with
  | ok z =>
    cases z with
    | nx ρ' => exact fun σ' S' H' s' f' r => p σ' S' H' (s.trans s') (f.trans f') r
    | bk ρ' => exact fun σ' S' H' s' f' r => p σ' S' H' (s.trans s') (f.trans f') r
    | ct ρ' => exact fun σ' S' H' s' f' r => p σ' S' H' (s.trans s') (f.trans f') r
    | rt d ρ' =>
      refine fun v S' H' e r hk => p v S' H' (s.ext.trans e s.own) ?_ fun i u hf hs => hk i u hf (by rw [f.2 i hf]; exact hs)
      unfold RetAt at r ⊢
      split
      · rename_i hr
        rw [if_pos hr] at r
        refine ⟨r.1, fun a ea => ?_, fun i hf => ?_⟩
        · rcases r.2.1 a ea with q | q
          · exact .inl (s.ext.there a q)
          · exact (s.own a q).symm
        · rw [← f.2 i hf]; exact r.2.2 i hf
      · rename_i hr
        rw [if_neg hr] at r
        exact r
  | exc c fs => exact fun σ' S' H' cls dd e q => p σ' S' H' cls dd (s.ext.trans e s.own) q
  | stuck => exact p
/-- an expression's outcome ahead of a statement's -/
theorem PostS.seqE {α β : Type} {R : RR α β} {Q : β → Hp → Prop} {x : Out (α × Rho)} {k : α × Rho → Out Fl} (P : PostS X W L S H os σ osN Ds (x.bind k))
    (h : ∀ d ρ1 b S1 H1, Stp os σ S H os1 σ S1 H1 → Rel X.K S1 H1 os1 σ ρ1 → R H S1 H1 b d → PostS X W L S1 H1 os1 σ osN Ds (k (d, ρ1)) → Q b H1) : Post X W S H os σ os1 R Q x :=
  Post.seq P (fun z => z) (fun _ _ p S' H' cls dd e q => p σ S' H' cls dd e q) fun d ρ1 b S1 H1 st rel q P => h d ρ1 b S1 H1 st rel q (PostS.step P st FixOn.refl)
theorem PostS.fin {ρ : Rho} (P : PostS X W L S H os σ os Ds (.ok (.nx ρ))) (rel : Rel X.K S H os σ ρ) : Ds.nx σ H := P σ S H (Stp.refl rel.sub) FixOn.refl rel
/-- a statement's outcome ahead of others -/
theorem PostS.seqS {x : Out Fl} {k : Rho → Out Fl} {N : L2.St → Hp → Prop} (P : PostS X W L S H os σ osN Ds (x.bind fun y => match y with | .nx ρ => k ρ | y => .ok y))
    (h : ∀ ρ1 σ1 S1 H1, Stp os σ S H os1 σ1 S1 H1 → FixOn L.fx σ σ1 → Rel X.K S1 H1 os1 σ1 ρ1 → PostS X W L S1 H1 os1 σ1 osN Ds (k ρ1) → N σ1 H1) : PostS X W L S H os σ os1 { Ds with nx := N } x := by
  cases x with
  | ok z =>
    cases z with
    | nx ρ' => exact fun σ' S' H' s' f' r => h ρ' σ' S' H' s' f' r (P.step s' f')
    | bk ρ' => exact P
    | ct ρ' => exact P
    | rt d ρ' => exact P
  | exc c fs => exact P
  | stuck => exact P
end

/-! ### the plain functions -/
def sSkip : Rho → Out Fl := fun ρ => .ok (.nx ρ)
def sSeq (g h : Rho → Out Fl) : Rho → Out Fl := fun ρ => (g ρ).bind fun y => match y with
  | .nx ρ => h ρ
  | y => .ok y
def sExpr (f : Rho → Out (D × Rho)) : Rho → Out Fl := fun ρ => (f ρ).bind fun p => .ok (.nx p.2)
def sRet (f : Rho → Out (D × Rho)) : Rho → Out Fl := fun ρ => (f ρ).bind fun p => .ok (.rt p.1 p.2)
def sRetN : Rho → Out Fl := fun ρ => .ok (.rt .non ρ)
def sIf (c : Rho → Out (Bool × Rho)) (g h : Rho → Out Fl) : Rho → Out Fl := fun ρ => (c ρ).bind fun p => if p.1 = true then g p.2 else h p.2
def sSet (i : Nat) (f : Rho → Out (D × Rho)) : Rho → Out Fl := fun ρ => (f ρ).bind fun p => .ok (.nx (p.2.set i (some p.1)))
def sStuck : Rho → Out Fl := fun _ => .stuck

section
variable {X : Cx} {W : WX} {L : Lc} {os os1 os2 os3 osN : Os} {e e1 e2 : Expr} {f f1 f2 : Rho → Out (D × Rho)} {pos p : Pos} {st : Stmt} {sts rest : List Stmt} {g h : Rho → Out Fl}
theorem vss_nil : VSs X W L os [] sSkip os := ⟨_, pss_nil, fun S σ H ρ Ds rel P => P.fin rel⟩
theorem vss_cons (a : VS X W L os st g os1) (b : VSs X W L os1 rest h os2) : VSs X W L os (st :: rest) (sSeq g h) os2 := by
  obtain ⟨t, pt, kt⟩ := a
  obtain ⟨u, pu, ku⟩ := b
  refine ⟨_, pss_cons pt pu, fun S σ H ρ Ds rel P => ?_⟩
  exact kt S σ H ρ _ rel (PostS.seqS P fun ρ1 σ1 S1 H1 s1 f1 r1 P1 => ku S1 σ1 H1 ρ1 Ds r1 P1)
theorem vss_one (a : VS X W L os st g os1) : VSs X W L os [st] g os1 := by
  obtain ⟨t, pt, kt⟩ := a
  exact ⟨t, pss_one pt, kt⟩
theorem vs_stuck : VS X W L os st sStuck osN := ⟨_, ps_never, fun _ _ _ _ _ _ P => P⟩
theorem vs_expr {r : Bool} (he : VE X W os e f os1 r) (hs : swapsWith e none pos.line X.env = pure false := by rfl) : VS X W L os (.Expr e pos) (sExpr f) os1 := by
  obtain ⟨t, pt, kt⟩ := he
  refine ⟨_, ps_expr pt hs, fun S σ H ρ Ds rel P => ?_⟩
  exact kt S σ H ρ _ rel (PostS.seqE P fun d ρ1 v S1 H1 s1 r1 q1 P1 => P1.fin r1)
theorem fix_end {σ : Sg} {S H : Hp} {ρ : Rho} {fx : Os} (rel : Rel X.K S H os σ ρ) (hf : Le fx os) : ∀ i u, fx.getD i false = true → σ[i]? = some (some u) → ∃ d', ρ[i]? = some (some d') ∧ OwnAt X.K S H u d' := fun i u h hs => by
  have ho := getD_le hf h
  have hl : i < ρ.length := by rw [← rel.len]; exact (List.getElem?_eq_some_iff.mp hs).1
  have q := rel.slot i _ _ hs (List.getElem?_eq_getElem hl)
  rw [ho] at q
  cases ed : ρ[i] with
  | none => rw [ed] at q; exact q.elim
  | some d => rw [ed] at q; exact ⟨d, by rw [List.getElem?_eq_getElem hl, ed], q⟩
theorem vs_ret (he : VE X W os e f os1 false) (hr : L.r = false := by rfl) (hf : Le L.fx os1 := by rfl) : VS X W L os (.Return (some e) pos) (sRet f) osN := by
  obtain ⟨t, pt, kt⟩ := he
  refine ⟨_, ps_ret pt, fun S σ H ρ Ds rel P => ?_⟩
  refine kt S σ H ρ _ rel (PostS.seqE P fun d ρ1 v S1 H1 s1 r1 q1 P1 => ?_)
  exact P1 v S1 H1 (Ext.refl r1.sub) (by unfold RetAt; rw [hr]; exact q1) (fix_end r1 hf)
theorem vs_retO (he : VE X W os e f os1 true) (hr : L.r = true := by rfl) (hf : Le L.fx os1 := by rfl) (hf0 : Le L.fx os := by rfl) : VS X W L os (.Return (some e) pos) (sRet f) osN := by
  obtain ⟨t, pt, kt⟩ := he
  refine ⟨_, ps_ret pt, fun S σ H ρ Ds rel P => ?_⟩
  refine kt S σ H ρ _ rel (Post.seq P (fun z => z) (fun _ _ p S' H' cls dd e q => p σ S' H' cls dd e q) fun d ρ1 v S1 H1 s1 r1 q1 P1 => ?_)
  refine P1 v S1 H1 s1.ext ?_ (fix_end r1 hf)
  unfold RetAt
  rw [hr]
  refine ⟨q1.1, fun a ea => .inl (q1.2 a ea), fun i hi hs => ?_⟩
  obtain ⟨a, o, ea, na, _⟩ := OwnAt.some_ q1.1
  subst ea
  obtain ⟨n, o, eo⟩ := rel.owned ⟨i, getD_le hf0 hi, hs⟩
  rw [q1.2 a rfl] at eo
  cases eo
theorem vs_if {c : Expr} {a b : List Stmt} {gc : Rho → Out (Bool × Rho)} (hc : VT X W os c gc os1) (ha : VSs X W L os1 a g os2) (hb : VSs X W L os1 b h os2) : VS X W L os (.If c a b pos) (sIf gc g h) os2 := by
  obtain ⟨t, p, k⟩ := hc
  obtain ⟨ta, pa, ka⟩ := ha
  obtain ⟨tb, pb, kb⟩ := hb
  refine ⟨_, ps_if p pa pb, fun S σ H ρ Ds rel P => ?_⟩
  refine k S σ H ρ _ rel (PostS.seqE P fun d ρ1 v S1 H1 st1 rel1 q1 P1 => ?_)
  cases q1
  cases d with
  | true => exact ka S1 σ H1 ρ1 Ds rel1 P1
  | false => exact kb S1 σ H1 ρ1 Ds rel1 P1
theorem fix_set {fx : Os} {σ : Sg} {i : Nat} {v : Option V} (h : fx.getD i false = false) : FixOn fx σ (σ.set i v) := ⟨List.length_set, fun j hj => by
  have e : i ≠ j := fun z => by rw [← z, h] at hj; cases hj
  rw [List.getElem?_set_ne e]⟩
/-- x = e -/
theorem vs_set (i : Nat) {x : Str} (he : VE X W os e f os1 false) (hN : X.N.Nodup) (hi : X.N[i]? = some x := by rfl) (hx : Loc X.env.scope x := by first | exact Or.inl rfl | exact Or.inr rfl) (hfi : L.fx.getD i false = false := by rfl)
    (hs : swapsWith e (some (.Name x p)) pos.line X.env = pure false := by rfl) (hf : X.fn x = true ∨ X.env.scope.names.lookup x = some .local := by first | exact .inl rfl | exact .inr rfl | assumption) : VS X W L os (.Assign [.Name x p] e pos) (sSet i f) (os1.set i false) := by
  obtain ⟨t, pt, kt⟩ := he
  refine ⟨_, ps_set hN hi hx pt hs hf, fun S σ H ρ Ds rel P => ?_⟩
  refine kt S σ H ρ _ rel (PostS.seqE P fun d ρ1 v S1 H1 s1 r1 q1 P1 => ?_)
  exact P1 _ S1 H1 ⟨Ext.refl r1.sub, fun a q => .inl (own_set q)⟩ (fix_set hfi) (r1.set q1 i)
/-- x = e, x the owner of the new list or dict -/
theorem vs_setO (i : Nat) {x : Str} (he : VE X W os e f os1 true) (hN : X.N.Nodup) (hi : X.N[i]? = some x := by rfl) (hx : Loc X.env.scope x := by first | exact Or.inl rfl | exact Or.inr rfl) (hfi : L.fx.getD i false = false := by rfl) (hio : i < os1.length := by decide) (hle : Le os1 os := by rfl)
    (hs : swapsWith e (some (.Name x p)) pos.line X.env = pure false := by rfl) (hf : X.fn x = true ∨ X.env.scope.names.lookup x = some .local := by first | exact .inl rfl | exact .inr rfl | assumption) : VS X W L os (.Assign [.Name x p] e pos) (sSet i f) (os1.set i true) := by
  obtain ⟨t, pt, kt⟩ := he
  refine ⟨_, ps_set hN hi hx pt hs hf, fun S σ H ρ Ds rel P => ?_⟩
  refine kt S σ H ρ _ rel (Post.seq P (fun z => z) (fun _ _ p S' H' cls dd e q => p σ S' H' cls dd e q) fun d ρ1 v S1 H1 s1 r1 q1 P1 => ?_)
  refine P1 _ S1 H1 ⟨s1.ext, fun a q => ?_⟩ (fix_set hfi) (r1.setO q1.1 (fun a ea j hj ho hs => ?_) hio)
  · rcases own_setO q with q | q
    · exact s1.own a q
    · exact .inr (q1.2 a q)
  · obtain ⟨n, o, eo⟩ := rel.owned ⟨j, getD_le hle ho, hs⟩
    rw [q1.2 a ea] at eo
    cases eo

/-! ### targets of any form -/
/-- only the slots of ch are stored -/
def ChOn (ch : List Nat) (σ σ' : Sg) : Prop := σ'.length = σ.length ∧ ∀ i, i ∉ ch → σ'[i]? = σ[i]?
theorem ChOn.fix {ch : List Nat} {σ σ' : Sg} {fx : Os} (h : ChOn ch σ σ') (hf : ch.all (fun i => !fx.getD i false) = true) : FixOn fx σ σ' := ⟨h.1, fun i hi => h.2 i fun hm => by
  have q := List.all_eq_true.mp hf i hm
  rw [hi] at q
  cases q⟩
def VG (X : Cx) (os : Os) (tg : Expr) (b : D → Rho → Option Rho) (ch : List Nat) (os' : Os) : Prop :=
  ∃ t, PG X tg t ∧ ∀ S σ H ρ v d ρ' Q, Rel X.K S H os σ ρ → At X.K S v d → b d ρ = some ρ' → (∀ σ', Rel X.K S H os' σ' ρ' → ChOn ch σ σ' → (∀ a, Own os' σ' a → Own os σ a) → Q σ' H) → t v σ H Q
def VGs (X : Cx) (os : Os) (tgs : List Expr) (b : List D → Rho → Option Rho) (ch : List Nat) (os' : Os) : Prop :=
  ∃ t, PGs X tgs t ∧ ∀ S σ H ρ vs ds ρ' Q, Rel X.K S H os σ ρ → AtL X.K S vs ds → b ds ρ = some ρ' → (∀ σ', Rel X.K S H os' σ' ρ' → ChOn ch σ σ' → (∀ a, Own os' σ' a → Own os σ a) → Q σ' H) → t vs σ H Q
def gName (i : Nat) : D → Rho → Option Rho := fun d ρ => some (ρ.set i (some d))
def gNil : List D → Rho → Option Rho := fun ds ρ => match ds with
  | [] => some ρ
  | _ => none
def gCons (b : D → Rho → Option Rho) (c : List D → Rho → Option Rho) : List D → Rho → Option Rho := fun ds ρ => match ds with
  | d :: r => (b d ρ).bind fun ρ1 => c r ρ1
  | [] => none
def gTup (n : Nat) (c : List D → Rho → Option Rho) : D → Rho → Option Rho := fun d ρ => match d with
  | .tup ds => if ds.length = n then c ds ρ else none
  | .lst ds => if ds.length = n then c ds ρ else none
  | _ => none
theorem pg_or {e : Expr} {t1 t2 : TG} (h1 : PG X e t1) (h2 : PG X e t2) : PG X e (fun v σ H Q => t1 v σ H Q ∨ t2 v σ H Q) := ⟨fun pins s σ H v u Q I r q => q.elim (h1.run pins s σ H v u Q I r) (h2.run pins s σ H v u Q I r)⟩
variable {ch ch2 : List Nat}
theorem vg_name (i : Nat) {x : Str} (hN : X.N.Nodup) (hi : X.N[i]? = some x := by rfl) (hx : Loc X.env.scope x := by first | exact Or.inl rfl | exact Or.inr rfl)
    (hf : X.fn x = true ∨ X.env.scope.names.lookup x = some .local := by first | exact .inl rfl | exact .inr rfl | assumption) : VG X os (.Name x p) (gName i) [i] (os.set i false) :=
  ⟨_, pg_name hN hi hx hf, fun S σ H ρ v d ρ' Q rel hv hb hq => by
    cases hb
    exact hq _ (rel.set hv i) ⟨List.length_set, fun j hj => List.getElem?_set_ne fun z => hj (by simp [z])⟩ fun a q => own_set q⟩
theorem vgs_nil : VGs X os [] gNil [] os := ⟨_, pgs_nil, fun S σ H ρ vs ds ρ' Q rel hv hb hq => by
  cases hv with
  | nil => cases hb; exact ⟨rfl, hq σ rel ⟨rfl, fun _ _ => rfl⟩ fun _ q => q⟩
  | cons _ _ => cases hb⟩
theorem vgs_cons {tg : Expr} {tgs : List Expr} {b : D → Rho → Option Rho} {c : List D → Rho → Option Rho} (h1 : VG X os tg b ch os1) (h2 : VGs X os1 tgs c ch2 os2)
    (hs : (assignEach (tg :: tgs) X.env).map (·.2) = assign tg X.env :: (assignEach tgs X.env).map (·.2) := by rfl) : VGs X os (tg :: tgs) (gCons b c) (ch ++ ch2) os2 := by
  obtain ⟨t, pt, kt⟩ := h1
  obtain ⟨u, pu, ku⟩ := h2
  refine ⟨_, pgs_cons pt pu hs, fun S σ H ρ vs ds ρ' Q rel hv hb hq => ?_⟩
  cases hv with
  | nil => cases hb
  | @cons v vs d ds h r =>
    have hb : (b d ρ).bind (fun ρ1 => c ds ρ1) = some ρ' := hb
    cases e1 : b d ρ with
    | none => rw [e1] at hb; cases hb
    | some ρ1 =>
      rw [e1] at hb
      refine ⟨v, vs, rfl, kt S σ H ρ v d ρ1 _ rel h e1 fun σ1 rel1 f1 o1 => ?_⟩
      exact ku S σ1 H ρ1 vs ds ρ' _ rel1 r hb fun σ2 rel2 f2 o2 => hq σ2 rel2 ⟨f2.1.trans f1.1, fun i hi => (f2.2 i fun z => hi (List.mem_append_right _ z)).trans (f1.2 i fun z => hi (List.mem_append_left _ z))⟩ fun a q => o1 a (o2 a q)
theorem vg_tup {es : List Expr} {k : Nat} {c : List D → Rho → Option Rho} (h : VGs X os es c ch os1) (hc : X.calm = true := by rfl) (hn : (assignEach es X.env).length = es.length := by rfl) (hst : (assignEach es X.env).findIdx? (·.1) = none := by rfl) :
    VG X os (.Tuple es k p) (gTup es.length c) ch os1 := by
  obtain ⟨t, pt, kt⟩ := h
  refine ⟨_, pg_or (pg_tup hc pt hn hst) (pg_unl hc pt hn hst), fun S σ H ρ v d ρ' Q rel hv hb hq => ?_⟩
  cases hv with
  | @lst a vs ds hs z r =>
    have hb : (if ds.length = es.length then c ds ρ else none) = some ρ' := hb
    split at hb
    · rename_i hl
      exact .inr ⟨a, vs, rfl, .of (rel.sub _ _ hs), by rw [r.length, hl], kt S σ H ρ vs ds ρ' Q rel r hb hq⟩
    · cases hb
  | @tup a vs ds hs z r =>
    have hb : (if ds.length = es.length then c ds ρ else none) = some ρ' := hb
    split at hb
    · rename_i hl
      exact .inl ⟨a, vs, rfl, sqT_mono rel.sub hs, by rw [r.length, hl], kt S σ H ρ vs ds ρ' Q rel r hb hq⟩
    · cases hb
  | _ => cases hb
def sBind (b : D → Rho → Option Rho) (f : Rho → Out (D × Rho)) : Rho → Out Fl := fun ρ => (f ρ).bind fun p => match b p.1 p.2 with
  | some ρ' => .ok (.nx ρ')
  | none => .stuck
/-- a, b = e -/
theorem vs_bind {tg : Expr} {b : D → Rho → Option Rho} (he : VE X W os e f os1 false) (hg : VG X os1 tg b ch os2) (hfx : ch.all (fun i => !L.fx.getD i false) = true := by rfl) (hs : swapsWithSole [tg] e pos.line X.env = pure false := by rfl) (hw : swappedStores [tg] e X.env = pure none := by rfl)
    (h1 : (assignEach [tg] X.env).map (·.2) = [assign tg X.env] := by rfl) : VS X W L os (.Assign [tg] e pos) (sBind b f) os2 := by
  obtain ⟨t, pt, kt⟩ := he
  obtain ⟨u, pu, ku⟩ := hg
  refine ⟨_, ps_asg pt pu hs hw h1, fun S σ H ρ Ds rel P => ?_⟩
  refine kt S σ H ρ _ rel (PostS.seqE P fun d ρ1 v S1 H1 s1 r1 q1 P1 => ?_)
  dsimp only at P1
  cases e1 : b d ρ1 with
  | none => rw [e1] at P1; exact P1.elim
  | some ρ' =>
    rw [e1] at P1
    exact ku S1 σ H1 ρ1 v d ρ' _ r1 q1 e1 fun σ' rel' f' o' => P1 σ' S1 H1 ⟨Ext.refl rel'.sub, fun a q => .inl (o' a q)⟩ (f'.fix hfx) rel'
def sPar (i j : Nat) (g : Rho → Out (List D × Rho)) : Rho → Out Fl := fun ρ => (g ρ).bind fun p => match p.1 with
  | [a, b] => .ok (.nx ((p.2.set i (some a)).set j (some b)))
  | _ => .stuck
/-- a, b = c, d (two plain local names) -/
theorem vs_par (i j : Nat) {x y : Str} {a b : Expr} {px py pt pt2 : Pos} {kt k2} {g : Rho → Out (List D × Rho)} (ha : VA X W os [a, b] g os1) (hN : X.N.Nodup) (hc : X.calm = true := by rfl) (hi : X.N[i]? = some x := by rfl) (hj : X.N[j]? = some y := by rfl) (hij : i ≠ j := by decide)
    (hx : X.env.scope.names.lookup x = some .local := by rfl) (hy : X.env.scope.names.lookup y = some .local := by rfl) (hfi : L.fx.getD i false = false := by rfl) (hfj : L.fx.getD j false = false := by rfl)
    (hw : swappedStores [.Tuple [.Name x px, .Name y py] kt pt] (.Tuple [a, b] k2 pt2) X.env = pure (some [x, y]) := by rfl)
    (hs : swapsWithSole [.Tuple [.Name x px, .Name y py] kt pt] (.Tuple [a, b] k2 pt2) pos.line X.env = pure false := by rfl) :
    VS X W L os (.Assign [.Tuple [.Name x px, .Name y py] kt pt] (.Tuple [a, b] k2 pt2) pos) (sPar i j g) ((os1.set i false).set j false) := by
  obtain ⟨t, pa, ka⟩ := ha
  refine ⟨_, ps_par hc hN hi hj hij hx hy pa hw hs, fun S σ H ρ Ds rel P => ?_⟩
  refine ka S σ H ρ _ rel (PostS.seqE P fun ds ρ1 vs S1 H1 s1 r1 q1 P1 => ?_)
  obtain ⟨q1, l1⟩ := q1
  match ds, vs, q1, P1 with
  | [d1, d2], [v1, v2], .cons h1 (.cons h2 .nil), P1 =>
    refine ⟨v1, v2, rfl, P1 _ S1 H1 ⟨Ext.refl r1.sub, fun a q => .inl (own_set (own_set q))⟩ ((fix_set hfi).trans (fix_set hfj)) ((r1.set h1 i).set h2 j)⟩
end

/-! ### a def by its body -/
def m0 (ρ : Rho) (pm : Option Nat) : D := match pm with
  | none => .non
  | some k => (ρ.getD k none).getD .non
/-- n names; pm: the turned parameter -/
def runF (n : Nat) (pm : Option Nat) (g : Rho → Out Fl) : List D → Out (D × D) := fun ds => match g (ds.map some ++ List.replicate (n - ds.length) none) with
  | .ok (.nx ρ) => .ok (.non, m0 ρ pm)
  | .ok (.rt d ρ) => .ok (d, m0 ρ pm)
  | .exc c fs => .exc c fs
  | _ => .stuck
theorem rel_start {K : PySem.W.Frag} {S H : Hp} {pm : Option Nat} {vs : List V} {ds : List D} {N : List Str} {os : Os} (r : Rel K S H (osP pm) (vs.map some) (ds.map some)) (ho : ∀ i, os.getD i false = (osP pm).getD i false) : Rel K S H os (start N vs) (ds.map some ++ List.replicate (N.length - ds.length) none) := by
  have hl : vs.length = ds.length := by simpa using r.len
  have cut : ∀ {α : Type} {l : List (Option α)} {m i : Nat} {x : Option α}, (l ++ List.replicate m none)[i]? = some x → (l[i]? = some x) ∨ (l.length ≤ i ∧ x = none) := fun {α l m i x} h => by
    by_cases hi : i < l.length
    · rw [List.getElem?_append_left hi] at h; exact .inl h
    · rw [List.getElem?_append_right (by omega), List.getElem?_replicate] at h
      split at h
      · cases h; exact .inr ⟨by omega, rfl⟩
      · cases h
  refine ⟨r.sub, ?_, fun i x y e1 e2 => ?_, fun i j a h1 h2 e1 e2 => ?_⟩
  · unfold L2.start; rw [List.length_append, List.length_append, List.length_map, List.length_map, List.length_replicate, List.length_replicate, hl]
  · unfold L2.start at e1
    rw [ho]
    rcases cut e1 with q1 | ⟨q1, rfl⟩
    · rcases cut e2 with q2 | ⟨q2, rfl⟩
      · exact r.slot i x y q1 q2
      · have := (List.getElem?_eq_some_iff.mp q1).1
        rw [List.length_map] at this q2
        omega
    · rcases cut e2 with q2 | ⟨q2, rfl⟩
      · have := (List.getElem?_eq_some_iff.mp q2).1
        rw [List.length_map] at this q1
        omega
      · cases (osP pm).getD i false <;> trivial
  · unfold L2.start at e1 e2
    rw [ho] at h1 h2
    rcases cut e1 with q1 | ⟨_, q1⟩
    · rcases cut e2 with q2 | ⟨_, q2⟩
      · exact r.sep i j a h1 h2 q1 q2
      · cases q2
    · cases q1
theorem own_start {pm : Option Nat} {vs : List V} {N : List Str} {os : Os} {a : Addr} (ho : ∀ i, os.getD i false = (osP pm).getD i false) (h : Own os (start N vs) a) : Own (osP pm) (vs.map some) a := by
  obtain ⟨i, h1, h2⟩ := h
  rw [ho] at h1
  refine ⟨i, h1, ?_⟩
  unfold L2.start at h2
  by_cases hi : i < (vs.map some).length
  · rw [List.getElem?_append_left hi] at h2; exact h2
  · rw [List.getElem?_append_right (by omega), List.getElem?_replicate] at h2
    split at h2 <;> cases h2
section
variable {P : Program} {w : World} {K : PySem.W.Frag} {mg : Str → Option Value} {base : Heap}
/-- THE RULE: a def's promise by its body's judgement -/
theorem fn_by {x qual : Str} {st : Stmt} {f : Addr} {fd : FuncData} {N ps : List Str} {k n : Nat} {pm : Option Nat} {r : Bool} {g : Rho → Out Fl} {os osN : Os} (F : Fun K x qual st f fd) (Sc : FnScope N ps (defScope st)) (hn : n = ps.length) (hr0 : r = true → osN = osN)
    (ho : ∀ i, os.getD i false = (osP pm).getD i false) (hNl : Le (osP pm) osN) (hnr : r = false ∨ ∀ ρ ρ', g ρ ≠ .ok (.nx ρ'))
    (body : ∀ (cdv : Value) (A : Around) (outer : List Env) (s : Shared) (H : Hp) (E : XK), Room k (A.deeper (envOfC qual (defScope st) s.heap.objs.size f cdv)) →
      ∀ (X : Cx), X = cxOf (L2.CX P w) P w K mg base N qual (defScope st) f cdv A outer s H E → Takes X (fun cls d _ H' => E cls d H') → PassesOwn (model X.prog X.w) X.A X.env X.xe →
      VSs X (fun cls d _ H' => E cls d H') ⟨osP pm, [], [], r⟩ os (defBody st) g osN) :
    FnOk P w K mg base (L2.CX P w) (k + 1) f fd ps (spec K mg n pm r (runF N.length pm g)) := by
  refine F.okX Sc (fun vs H Q E h => by rw [h.1, hn]) (fun cdv A outer s H vs Q E hr h => ?_)
  obtain ⟨hl, S, ds, rel, h⟩ := h
  obtain ⟨t, pt, kt⟩ := body cdv A outer s H E hr _ rfl (takes_of rfl rfl rfl rfl) (passes_of rfl)
  refine ⟨t, pt, kt S _ H _ _ (rel_start (N := N) rel ho) ?_⟩
  have hvl : vs.length = ds.length := by simpa using rel.len
  unfold runF at h
  cases e : g (ds.map some ++ List.replicate (N.length - ds.length) none) with
  | exc c fs =>
    rw [e] at h
    exact fun σ' S' H' cls dd x q => h S' H' cls dd (x.weak fun a q => own_start ho q) q
  | stuck => rw [e] at h; exact h.elim
  | ok z =>
    rw [e] at h
    -- what the turned parameter holds at the end
    have hm : ∀ (ρ : Rho) (σ : Sg) (S' H' : Hp), (∀ i u, (osP pm).getD i false = true → σ[i]? = some (some u) → ∃ d', ρ[i]? = some (some d') ∧ OwnAt K S' H' u d') → FixOn (osP pm) (start N vs) σ → ∀ k u, pm = some k → vs[k]? = some u → OwnAt K S' H' u (m0 ρ pm) := fun ρ σ S' H' hk hf k u ek ev => by
      subst ek
      have hs : (start N vs)[k]? = some (some u) := by
        unfold L2.start
        rw [List.getElem?_append_left (by rw [List.length_map]; exact (List.getElem?_eq_some_iff.mp ev).1), List.getElem?_map, ev]
        rfl
      obtain ⟨d', e1, q⟩ := hk k u (osP_get.mpr rfl) (by rw [hf.2 k (osP_get.mpr rfl)]; exact hs)
      have e2 : m0 ρ (some k) = d' := by
        show (ρ.getD k none).getD .non = d'
        rw [List.getD, e1]; rfl
      rw [e2]; exact q
    cases z with
    | bk ρ => exact h.elim
    | ct ρ => exact h.elim
    | nx ρ =>
      rcases hnr with hnr | hnr
      · subst hnr
        exact fun σ' S' H' s' f' r' => h .non S' H' (s'.ext.weak fun a q => own_start ho q) .non (hm ρ σ' S' H' (fix_end (X := cxOf (L2.CX P w) P w K mg base N qual (defScope st) f cdv A outer s H E) r' hNl) f')
      · exact (hnr _ _ e).elim
    | rt d ρ =>
      refine fun v S' H' x hv hk => h v S' H' (x.weak fun a q => own_start ho q) ?_ (hm ρ _ S' H' hk FixOn.refl)
      unfold RetAt at hv
      unfold RV
      cases r with
      | false => exact hv
      | true =>
        refine ⟨hv.1, fun a ea => ?_⟩
        rcases hv.2.1 a ea with q | ⟨i, h1, h2⟩
        · exact q
        · exact (hv.2.2 i (by rw [ho] at h1; exact h1) (by rw [h2, ea])).elim
end
end SW

set_option maxRecDepth 100000
/-! SW5: what loops walk (VI), for, while, list comprehensions. -/
namespace SW
open PySem PySem.Spec PyProof.Rows L2

/-- the walk J yields these data, one a turn, whatever is laid beside -/
def ItAt (K : PySem.W.Frag) (S0 : Hp) (J : It) (items : List D) : Prop := items.length ≤ sizeLine ∧ ∀ i S H, Same S0 S → Same S H →
  (items.length ≤ i → J.stop i H) ∧ ∀ d, items[i]? = some d → J.go i H ∧ ∀ x H', J.yld i H x H' → ∃ S', Ext (fun _ => False) S H S' H' ∧ At K S' x d
def RI (K : PySem.W.Frag) : RR (List D) It := fun _ S' _ J items => ItAt K S' J items
theorem RI.ok {K : PySem.W.Frag} : (RI K).Ok := fun _ _ _ _ _ _ _ q => q
def VI (X : Cx) (W : WX) (os : Os) (tg iter : Expr) (f : Rho → Out (List D × Rho)) (os' : Os) : Prop :=
  ∃ wi, PI X tg iter wi ∧ ∀ S σ H ρ R, Rel X.K S H os σ ρ → Post X W S H os σ os' (RI X.K) R (f ρ) → wi σ H R

theorem pi_or {X : Cx} {tg iter : Expr} {w1 w2 : TI} (h1 : PI X tg iter w1) (h2 : PI X tg iter w2) : PI X tg iter (fun σ H R => w1 σ H R ∨ w2 σ H R) :=
  ⟨fun pins s σ H R I h => h.elim (h1.run pins s σ H R I) (h2.run pins s σ H R I)⟩

def itemsOf : D → Option (List D)
  | .lst ds => some ds
  | .tup ds => some ds
  | .scr ns => some (ns.map .int)
  | _ => none
def iSeq (f : Rho → Out (D × Rho)) : Rho → Out (List D × Rho) := fun ρ => (f ρ).bind fun p => (Out.of (itemsOf p.1)).bind fun c => .ok (c, p.2)

section
variable {K : PySem.W.Frag} {S S1 H : Hp}
theorem itAt_list {a : Addr} {vs : List V} {ds : List D} (h : SqL K S a vs) (z : ds.length ≤ sizeLine) (r : AtL K S vs ds) : ItAt K S (Itl K a) ds := ⟨z, fun i S' H' s1 s2 => by
  have hs : SqL K H' a vs := s2.seq (s1.seq h)
  refine ⟨fun hi => ⟨vs, hs, by rw [r.length]; exact hi⟩, fun d hd => ?_⟩
  obtain ⟨v, ev, hat⟩ := r.get hd
  refine ⟨⟨vs, v, hs, ev⟩, fun x H2 y => ?_⟩
  obtain ⟨rfl, fv⟩ := y
  have e := (fv vs hs).symm.trans ev
  cases e
  exact ⟨S', Ext.refl s2, hat.mono s1⟩⟩
theorem itAt_tup {a : Addr} {vs : List V} {ds : List D} (h : SqT K S a vs) (z : ds.length ≤ sizeLine) (r : AtL K S vs ds) : ItAt K S (Itt K a) ds := ⟨z, fun i S' H' s1 s2 => by
  have hs : SqT K H' a vs := sqT_mono s2 (sqT_mono s1 h)
  refine ⟨fun hi => ⟨vs, hs, by rw [r.length]; exact hi⟩, fun d hd => ?_⟩
  obtain ⟨v, ev, hat⟩ := r.get hd
  refine ⟨⟨vs, v, hs, ev⟩, fun x H2 y => ?_⟩
  obtain ⟨rfl, fv⟩ := y
  have e := (fv vs hs).symm.trans ev
  cases e
  exact ⟨S', Ext.refl s2, hat.mono s1⟩⟩
end
section
variable {X : Cx} {W : WX} {L : Lc} {os os1 os2 os3 osN : Os} {e e1 e2 : Expr} {f f1 f2 : Rho → Out (D × Rho)} {pos p : Pos} {st : Stmt} {sts rest : List Stmt} {tg iter : Expr}

/-- over a list or a tuple that stands -/
theorem vi_seq (he : VE X W os e f os1 false) : VI X W os tg e (iSeq f) os1 := by
  obtain ⟨t, pt, kt⟩ := he
  refine ⟨_, pi_or (pi_list pt) (pi_tup pt), fun S σ H ρ R rel P => ?_⟩
  cases hf : f ρ with
  | stuck => unfold iSeq at P; rw [hf] at P; exact P.elim
  | exc c fs =>
    refine .inl (kt S σ H ρ _ rel ?_)
    unfold iSeq at P
    rw [hf] at P ⊢
    exact P
  | ok z =>
    obtain ⟨d, ρ1⟩ := z
    unfold iSeq at P
    rw [hf] at P
    have P : Post X W S H os σ os1 (RI X.K) R ((Out.of (itemsOf d)).bind fun c => Out.ok (c, ρ1)) := P
    cases d with
    | lst ds =>
      refine .inl (kt S σ H ρ _ rel ?_)
      rw [hf]
      intro v S1 H1 st1 rel1 q1
      cases (show At X.K S1 v (.lst ds) from q1) with
      | lst hs z r => exact ⟨_, rfl, ⟨_, .of (rel1.sub _ _ hs)⟩, P _ S1 H1 st1 rel1 (itAt_list (.of hs) z r)⟩
    | scr ns =>
      refine .inl (kt S σ H ρ _ rel ?_)
      rw [hf]
      intro v S1 H1 st1 rel1 q1
      cases (show At X.K S1 v (.scr ns) from q1) with
      | scr hs z => exact ⟨_, rfl, ⟨_, rel1.sub.seq hs⟩, P _ S1 H1 st1 rel1 (itAt_list hs (by rw [List.length_map]; exact z) (AtL.ints ns))⟩
    | tup ds =>
      refine .inr (kt S σ H ρ _ rel ?_)
      rw [hf]
      intro v S1 H1 st1 rel1 q1
      cases (show At X.K S1 v (.tup ds) from q1) with
      | tup hs z r => exact ⟨_, rfl, ⟨_, sqT_mono rel1.sub hs⟩, P _ S1 H1 st1 rel1 (itAt_tup hs z r)⟩
    | _ => exact P.elim

/-! ### ranges -/
def lim62 (i : Int) : Bool := decide (i.natAbs < 4611686018427387904)
def rngI (lo : Int) (n : Nat) : List D := (List.range n).map fun i => .int (lo + (i : Nat))
def rangeD : List D → Option (List D)
  | [.int j] => if j.toNat ≤ 16777216 ∧ j.natAbs ≤ 4611686018427387904 then some (rngI 0 j.toNat) else none
  | [.int i, .int j] => if (j - i).toNat ≤ 16777216 ∧ lim62 i = true ∧ lim62 j = true then some (rngI i (j - i).toNat) else none
  | [.int i, .int j, .int c] => if c = -1 ∧ (i - j).toNat ≤ 16777216 ∧ lim62 i = true ∧ lim62 j = true then some ((List.range (i - j).toNat).map fun k => .int (i + (k : Nat) * (-1))) else none
  | _ => none
def iRange (g : Rho → Out (List D × Rho)) : Rho → Out (List D × Rho) := fun ρ => (g ρ).bind fun p => (Out.of (rangeD p.1)).bind fun c => .ok (c, p.2)
theorem sizeLine_is : sizeLine = 16777216 := by decide
theorem itAt_rng {K : PySem.W.Frag} {S : Hp} {lo : Int} {n : Nat} (hn : n ≤ sizeLine) : ItAt K S (Itr lo n) (rngI lo n) := by
  have hl : (rngI lo n).length = n := by unfold rngI; rw [List.length_map, List.length_range]
  refine ⟨by rw [hl]; exact hn, fun i S' H' s1 s2 => ⟨fun hi => by rw [hl] at hi; exact hi, fun d hd => ?_⟩⟩
  have hi : i < n := by rw [← hl]; exact (List.getElem?_eq_some_iff.mp hd).1
  refine ⟨hi, fun x H2 y => ?_⟩
  obtain ⟨rfl, rfl⟩ := y
  unfold rngI at hd
  rw [List.getElem?_map, List.getElem?_range hi] at hd
  cases hd
  exact ⟨S', Ext.refl s2, .int _⟩
theorem vi_range1 {a : Expr} {g : Rho → Out (List D × Rho)} (ha : VA X W os [a] g os1) (hm : X.mg "range" = none) (hg : Gl X "range" := by rfl) (hs : starEach [a] X.env = [(false, eval a X.env)] := by rfl) : VI X W os tg (.Call (.Name "range" p) [a] [] pos) (iRange g) os1 := by
  obtain ⟨t, pt, kt⟩ := ha
  refine ⟨_, pi_range1 hg hm pt hs, fun S σ H ρ R rel P => ?_⟩
  refine kt S σ H ρ _ rel (Post.seq P (fun z => z) (fun c fs p => p) fun ds ρ1 vs S1 H1 st1 rel1 q1 P1 => ?_)
  obtain ⟨q1, l1⟩ := q1
  match ds, vs, q1, P1 with
  | [d1], [v1], .cons h1 .nil, P1 =>
    have P1 : Post X W S H os σ os1 (RI X.K) R ((Out.of (rangeD [d1])).bind fun c => Out.ok (c, ρ1)) := P1
    cases h1 with
    | int j =>
      have P1 : Post X W S H os σ os1 (RI X.K) R ((Out.of (if j.toNat ≤ 16777216 ∧ j.natAbs ≤ 4611686018427387904 then some (rngI 0 j.toNat) else none)).bind fun c => Out.ok (c, ρ1)) := P1
      split at P1
      · rename_i hj
        refine ⟨j, rfl, by omega, by omega, (P1.step RI.ok st1).fin (os' := os1) rel1 (itAt_rng ?_)⟩
        rw [sizeLine_is]
        omega
      · exact P1.elim
    | _ => exact P1.elim
/-! ### enumerate, zip of lists -/
def enumD (ds : List D) : List D := (List.range ds.length).zipWith (fun i d => .tup [.int (i : Nat), d]) ds
def iEnum1 : List D → Option (List D)
  | [.lst ds] => some (enumD ds)
  | _ => none
def iArg (h : List D → Option (List D)) (g : Rho → Out (List D × Rho)) : Rho → Out (List D × Rho) := fun ρ => (g ρ).bind fun p => (Out.of (h p.1)).bind fun c => .ok (c, p.2)
theorem two_ok : 2 ≤ sizeLine := by decide
theorem vi_enum {elts : List Expr} {kk : Nat} {tpos : Pos} {g : Rho → Out (List D × Rho)} (ha : VA X W os [e] g os1) (hm : X.mg "enumerate" = none) (hg : Gl X "enumerate" := by rfl) (hs : starEach [e] X.env = [(false, eval e X.env)] := by rfl) :
    VI X W os (.Tuple elts kk tpos) (.Call (.Name "enumerate" p) [e] [] pos) (iArg iEnum1 g) os1 := by
  obtain ⟨t, pt, kt⟩ := ha
  refine ⟨_, pi_enum hg hm pt hs, fun S σ H ρ R rel P => ?_⟩
  refine kt S σ H ρ _ rel (Post.seq P (fun z => z) (fun c fs p => p) fun ds ρ1 vs S1 H1 st1 rel1 q1 P1 => ?_)
  obtain ⟨q1, l1⟩ := q1
  match ds, vs, q1, P1 with
  | [d1], [v1], .cons h1 .nil, P1 =>
    have P1 : Post X W S H os σ os1 (RI X.K) R ((Out.of (iEnum1 [d1])).bind fun c => Out.ok (c, ρ1)) := P1
    cases h1 with
    | @lst a vs ds hs z r =>
      have hl : (enumD ds).length = ds.length := by unfold enumD; rw [List.length_zipWith, List.length_range, Nat.min_self]
      refine ⟨a, vs, rfl, .of (rel1.sub _ _ hs), (P1.step RI.ok st1).fin (os' := os1) rel1 ⟨by rw [hl]; exact z, fun i S' H' s1 s2 => ?_⟩⟩
      have hs' : SqL X.K H' a vs := .of (s2 _ _ (s1 _ _ hs))
      refine ⟨fun hi => ⟨vs, hs', by rw [r.length, ← hl]; exact hi⟩, fun d hd => ?_⟩
      have hi : i < ds.length := by rw [← hl]; exact (List.getElem?_eq_some_iff.mp hd).1
      obtain ⟨v, ev, hat⟩ := r.get (List.getElem?_eq_getElem hi)
      refine ⟨⟨vs, v, hs', ev⟩, fun x H2 y => ?_⟩
      obtain ⟨T, x', rfl, nT, rfl, fx⟩ := y
      have e := (fx vs hs').symm.trans ev
      cases e
      have xx := Ext.new (O := fun _ => False) (o := .tup [.int (i : Nat), v]) s2 nT
      refine ⟨_, xx, ?_⟩
      have ed : d = .tup [.int (i : Nat), ds[i]] := by
        unfold enumD at hd
        rw [List.getElem?_zipWith, List.getElem?_range hi, List.getElem?_eq_getElem hi] at hd
        exact (Option.some.inj hd).symm
      rw [ed]
      exact .tup (.inl (.inl upd_same)) two_ok (.cons (.int _) (.cons ((hat.mono s1).mono xx.s) .nil))
    | _ => exact P1.elim
/-! ### for -/
def forL (b : D → Rho → Option Rho) (g : Rho → Out Fl) : List D → Rho → Out Fl
  | [], ρ => .ok (.nx ρ)
  | x :: xs, ρ => match b x ρ with
    | none => .stuck
    | some ρ1 => (g ρ1).bind fun y => match y with
      | .nx ρ2 => forL b g xs ρ2
      | .ct ρ2 => forL b g xs ρ2
      | .bk ρ2 => .ok (.nx ρ2)
      | .rt d ρ2 => .ok (.rt d ρ2)
def sFor (f : Rho → Out (List D × Rho)) (b : D → Rho → Option Rho) (g : Rho → Out Fl) : Rho → Out Fl := fun ρ => (f ρ).bind fun p => forL b g p.1 p.2
theorem vs_for {body : List Stmt} {fi : Rho → Out (List D × Rho)} {b : D → Rho → Option Rho} {g : Rho → Out Fl} {ch : List Nat} (hp : PassesOwn (model X.prog X.w) X.A X.env X.xe) (hi : VI X W os tg iter fi os1) (hg : VG X os1 tg b ch os2)
    (hb : VSs X W ⟨L.fx, os1, os1, L.r⟩ os2 body g os1) (hfx : ch.all (fun i => !L.fx.getD i false) = true := by rfl) (hc : X.calm = true := by rfl) (hs : ∀ x, foldedSetIterable iter X.env x = pure x := by intro _; rfl) :
    VS X W L os (.For tg iter body [] pos) (sFor fi b g) os1 := by
  obtain ⟨wi, pi, ki⟩ := hi
  obtain ⟨tg', pg, kg⟩ := hg
  obtain ⟨tb, pb, kb⟩ := hb
  refine ⟨_, ps_for hp hc pi pg pb hs, fun S σ H ρ Ds rel P => ?_⟩
  refine ki S σ H ρ _ rel (PostS.seqE P fun items ρ1 J S1 H1 st1 rel1 q1 P1 => ?_)
  obtain ⟨hz, q1⟩ := q1
  refine ⟨fun i m σ' H' => i + m = items.length ∧ ∃ S' ρ', Same S1 S' ∧ Rel X.K S' H' os1 σ' ρ' ∧ PostS X W L S' H' os1 σ' os1 Ds (forL b g (items.drop i) ρ'), ⟨items.length, by omega, S1, ρ1, Same.refl _, rel1, P1⟩, ?_⟩
  rintro i m σ' H' ⟨hm, S', ρ', s1, rel', P'⟩
  obtain ⟨hstop, hgo⟩ := q1 i S' H' s1 rel'.sub
  by_cases hlt : i < items.length
  · have ed := List.getElem?_eq_getElem hlt
    obtain ⟨go, hy⟩ := hgo _ ed
    rw [List.drop_eq_getElem_cons hlt] at P'
    unfold forL at P'
    refine .inr ⟨go, fun σ'' H'' => ∃ S'' ρ'', Same S1 S'' ∧ Rel X.K S'' H'' os1 σ'' ρ'' ∧ PostS X W L S'' H'' os1 σ'' os1 Ds (forL b g (items.drop (i + 1)) ρ''), fun σ'' H'' ⟨S'', ρ'', a, b, c⟩ => ⟨m - 1, by omega, by omega, S'', ρ'', a, b, c⟩, fun x H2 y => ?_⟩
    obtain ⟨S2, x2, hat⟩ := hy x H2 y
    have rel2 := rel'.ext0 x2
    cases eb : b items[i] ρ' with
    | none => rw [eb] at P'; exact P'.elim
    | some ρ2 =>
      rw [eb] at P'
      refine kg S2 σ' H2 ρ' x _ ρ2 _ rel2 hat eb fun σ3 rel3 f3 o3 => ?_
      have st3 : Stp os1 σ' S' H' os2 σ3 S2 H2 := ⟨x2.weak fun _ z => z.elim, fun a q => .inl (o3 a q)⟩
      have fx3 := f3.fix hfx
      refine kb S2 σ3 H2 ρ2 _ rel3 ?_
      have P' : PostS X W L S2 H2 os2 σ3 os1 Ds ((g ρ2).bind fun y => match y with
        | .nx ρ2 => forL b g (items.drop (i + 1)) ρ2
        | .ct ρ2 => forL b g (items.drop (i + 1)) ρ2
        | .bk ρ2 => .ok (.nx ρ2)
        | .rt d ρ2 => .ok (.rt d ρ2)) := PostS.step P' st3 fx3
      cases hgr : g ρ2 with
      | stuck => rw [hgr] at P'; exact P'
      | exc c fs => rw [hgr] at P'; exact P'
      | ok z =>
        rw [hgr] at P'
        cases z with
        | nx ρ4 => exact fun σ4 S4 H4 s4 f4 r4 => ⟨S4, ρ4, s1.trans (x2.s.trans s4.ext.s), r4, PostS.step P' s4 f4⟩
        | ct ρ4 => exact fun σ4 S4 H4 s4 f4 r4 => ⟨S4, ρ4, s1.trans (x2.s.trans s4.ext.s), r4, PostS.step P' s4 f4⟩
        | bk ρ4 => exact P'
        | rt d ρ4 => exact P'
  · refine .inl ⟨hstop (by omega), ?_⟩
    rw [List.drop_of_length_le (by omega)] at P'
    exact P'.fin rel'

/-! ### while -/
def whileL (c : Rho → Out (Bool × Rho)) (g : Rho → Out Fl) : Nat → Rho → Out Fl
  | 0, _ => .stuck
  | n + 1, ρ => (c ρ).bind fun p => if p.1 = true then (g p.2).bind fun y => (match y with
      | .nx ρ2 => whileL c g n ρ2
      | .ct ρ2 => whileL c g n ρ2
      | .bk ρ2 => .ok (.nx ρ2)
      | .rt d ρ2 => .ok (.rt d ρ2)) else .ok (.nx p.2)
def sWhile (fuel : Rho → Nat) (c : Rho → Out (Bool × Rho)) (g : Rho → Out Fl) : Rho → Out Fl := fun ρ => whileL c g (fuel ρ) ρ
theorem vs_while {c : Expr} {body : List Stmt} {gc : Rho → Out (Bool × Rho)} {g : Rho → Out Fl} {fuel : Rho → Nat} (hp : PassesOwn (model X.prog X.w) X.A X.env X.xe) (hc : VT X W os c gc os) (hb : VSs X W ⟨L.fx, os, os, L.r⟩ os body g os) :
    VS X W L os (.While c body [] pos) (sWhile fuel gc g) os := by
  obtain ⟨tc, pc, kc⟩ := hc
  obtain ⟨tb, pb, kb⟩ := hb
  refine ⟨_, ps_while hp pc pb, fun S σ H ρ Ds rel P => ?_⟩
  refine ⟨fun m σ' H' => ∃ S' ρ', Rel X.K S' H' os σ' ρ' ∧ PostS X W L S' H' os σ' os Ds (whileL gc g m ρ'), ⟨fuel ρ, S, ρ, rel, P⟩, ?_⟩
  rintro m σ' H' ⟨S', ρ', rel', P'⟩
  cases m with
  | zero => exact P'.elim
  | succ m =>
    unfold whileL at P'
    refine kc S' σ' H' ρ' _ rel' (PostS.seqE P' fun d ρ1 v S1 H1 s1 r1 q1 P1 => ?_)
    cases q1
    cases d with
    | false => exact P1.fin r1
    | true =>
      refine ⟨fun σ'' H'' => ∃ S'' ρ'', Rel X.K S'' H'' os σ'' ρ'' ∧ PostS X W L S'' H'' os σ'' os Ds (whileL gc g m ρ''), fun σ'' H'' h => ⟨m, Nat.lt_succ_self m, h⟩, ?_⟩
      refine kb S1 σ' H1 ρ1 _ r1 ?_
      have P1 : PostS X W L S1 H1 os σ' os Ds ((g ρ1).bind fun y => (match y with
        | .nx ρ2 => whileL gc g m ρ2
        | .ct ρ2 => whileL gc g m ρ2
        | .bk ρ2 => .ok (.nx ρ2)
        | .rt d ρ2 => .ok (.rt d ρ2))) := P1
      cases hgr : g ρ1 with
      | stuck => rw [hgr] at P1; exact P1
      | exc c fs => rw [hgr] at P1; exact P1
      | ok z =>
        rw [hgr] at P1
        cases z with
        | nx ρ4 => exact fun σ4 S4 H4 s4 f4 r4 => ⟨S4, ρ4, r4, PostS.step P1 s4 f4⟩
        | ct ρ4 => exact fun σ4 S4 H4 s4 f4 r4 => ⟨S4, ρ4, r4, PostS.step P1 s4 f4⟩
        | bk ρ4 => exact P1
        | rt d ρ4 => exact P1
end
end SW

set_option maxRecDepth 100000
/-! SW6: list comprehensions of one clause; freezing behind a statement. -/
namespace SW
open PySem PySem.Spec PyProof.Rows L2

def wipeR (ρ : Rho) : List Nat → Rho
  | [] => ρ
  | v :: vs => (wipeR ρ vs).set v none
def backR : List Nat → Rho → Rho → Rho
  | [], _, ρ3 => ρ3
  | v :: vs, ρ, ρ3 => (backR vs ρ ρ3).set v (ρ.getD v none)
theorem wipeR_len (ρ : Rho) : ∀ vs, (wipeR ρ vs).length = ρ.length
  | [] => rfl
  | v :: vs => by unfold wipeR; rw [List.length_set, wipeR_len ρ vs]
theorem backR_len (ρ ρ3 : Rho) : ∀ vs, (backR vs ρ ρ3).length = ρ3.length
  | [] => rfl
  | v :: vs => by unfold backR; rw [List.length_set, backR_len ρ ρ3 vs]
theorem wipe_in {σ : Sg} {i : Nat} : ∀ {vs : List Nat}, i ∈ vs → i < σ.length → (wipe σ vs)[i]? = some none
  | v :: vs, h, hl => by
    unfold wipe
    by_cases e : v = i
    · subst e; rw [List.getElem?_set_self (by rw [wipe_length]; exact hl)]
    · rw [List.getElem?_set_ne e]
      exact wipe_in (by simpa [e, Ne.symm e] using (List.mem_cons.mp h).resolve_left (Ne.symm e)) hl
theorem wipe_out {σ : Sg} {i : Nat} : ∀ {vs : List Nat}, i ∉ vs → (wipe σ vs)[i]? = σ[i]?
  | [], _ => rfl
  | v :: vs, h => by
    unfold wipe
    rw [List.getElem?_set_ne (fun z => h (by simp [z]))]
    exact wipe_out fun z => h (List.mem_cons_of_mem _ z)
theorem wipeR_in {ρ : Rho} {i : Nat} : ∀ {vs : List Nat}, i ∈ vs → i < ρ.length → (wipeR ρ vs)[i]? = some none
  | v :: vs, h, hl => by
    unfold wipeR
    by_cases e : v = i
    · subst e; rw [List.getElem?_set_self (by rw [wipeR_len]; exact hl)]
    · rw [List.getElem?_set_ne e]
      exact wipeR_in ((List.mem_cons.mp h).resolve_left (Ne.symm e)) hl
theorem wipeR_out {ρ : Rho} {i : Nat} : ∀ {vs : List Nat}, i ∉ vs → (wipeR ρ vs)[i]? = ρ[i]?
  | [], _ => rfl
  | v :: vs, h => by
    unfold wipeR
    rw [List.getElem?_set_ne (fun z => h (by simp [z]))]
    exact wipeR_out fun z => h (List.mem_cons_of_mem _ z)
theorem backR_in {ρ ρ3 : Rho} {i : Nat} : ∀ {vs : List Nat}, i ∈ vs → i < ρ3.length → (backR vs ρ ρ3)[i]? = some (ρ.getD i none)
  | v :: vs, h, hl => by
    unfold backR
    by_cases e : v = i
    · subst e; rw [List.getElem?_set_self (by rw [backR_len]; exact hl)]
    · rw [List.getElem?_set_ne e]
      exact backR_in ((List.mem_cons.mp h).resolve_left (Ne.symm e)) hl
theorem backR_out {ρ ρ3 : Rho} {i : Nat} : ∀ {vs : List Nat}, i ∉ vs → (backR vs ρ ρ3)[i]? = ρ3[i]?
  | [], _ => rfl
  | v :: vs, h => by
    unfold backR
    rw [List.getElem?_set_ne (fun z => h (by simp [z]))]
    exact backR_out fun z => h (List.mem_cons_of_mem _ z)
theorem wipe_eq {σ σ2 : Sg} {vs ch : List Nat} (h : ChOn ch (wipe σ vs) σ2) (hc : ∀ i ∈ ch, i ∈ vs) : wipe σ2 vs = wipe σ vs := by
  have hl : σ2.length = σ.length := by rw [h.1, wipe_length]
  refine List.ext_getElem? fun i => ?_
  by_cases hi : i ∈ vs
  · by_cases hlt : i < σ.length
    · rw [wipe_in hi hlt, wipe_in hi (by rw [hl]; exact hlt)]
    · rw [List.getElem?_eq_none (by rw [wipe_length]; omega), List.getElem?_eq_none (by rw [wipe_length]; omega)]
  · rw [wipe_out hi, h.2 i fun z => hi (hc i z)]

section
variable {K : PySem.W.Frag} {S S3 H H3 : Hp} {os : Os} {σ σ2 : Sg} {ρ ρ3 : Rho} {vs : List Nat}
theorem all_false {os : Os} (h : vs.all (fun v => !os.getD v false) = true) {i : Nat} (hi : i ∈ vs) : os.getD i false = false := by
  have q := List.all_eq_true.mp h i hi
  simpa using q
theorem Rel.wipe (r : Rel K S H os σ ρ) (hv : vs.all (fun v => !os.getD v false) = true) : Rel K S H os (L2.wipe σ vs) (wipeR ρ vs) where
  sub := r.sub
  len := by rw [wipe_length, wipeR_len]; exact r.len
  slot := fun i x d e1 e2 => by
    by_cases hi : i ∈ vs
    · have hl : i < σ.length := by
        have := (List.getElem?_eq_some_iff.mp e1).1
        rwa [wipe_length] at this
      rw [wipe_in hi hl] at e1
      rw [wipeR_in hi (by rw [← r.len]; exact hl)] at e2
      cases e1; cases e2
      cases os.getD i false <;> trivial
    · rw [wipe_out hi] at e1
      rw [wipeR_out hi] at e2
      exact r.slot i x d e1 e2
  sep := fun i j a h1 h2 e1 e2 => by
    have hi : i ∉ vs := fun z => by rw [all_false hv z] at h1; cases h1
    have hj : j ∉ vs := fun z => by rw [all_false hv z] at h2; cases h2
    rw [wipe_out hi] at e1
    rw [wipe_out hj] at e2
    exact r.sep i j a h1 h2 e1 e2
theorem own_wipe (hv : vs.all (fun v => !os.getD v false) = true) {a : Addr} : Own os (L2.wipe σ vs) a ↔ Own os σ a := by
  constructor
  · rintro ⟨i, h1, h2⟩
    have hi : i ∉ vs := fun z => by rw [all_false hv z] at h1; cases h1
    rw [wipe_out hi] at h2
    exact ⟨i, h1, h2⟩
  · rintro ⟨i, h1, h2⟩
    have hi : i ∉ vs := fun z => by rw [all_false hv z] at h1; cases h1
    exact ⟨i, h1, by rw [wipe_out hi]; exact h2⟩
theorem Rel.back (r : Rel K S H os σ ρ) (hv : vs.all (fun v => !os.getD v false) = true) (sm : Same S S3) (r3 : Rel K S3 H3 os σ2 ρ3) (hl : σ2.length = σ.length) (ho : ∀ i, i ∉ vs → σ2[i]? = σ[i]?) : Rel K S3 H3 os σ (backR vs ρ ρ3) where
  sub := r3.sub
  len := by rw [backR_len, ← r3.len, hl]
  slot := fun i x d e1 e2 => by
    by_cases hi : i ∈ vs
    · have hlt : i < σ.length := (List.getElem?_eq_some_iff.mp e1).1
      rw [backR_in hi (by rw [← r3.len, hl]; exact hlt)] at e2
      have hr : i < ρ.length := by rw [← r.len]; exact hlt
      have e3 : ρ[i]? = some d := by
        have : ρ.getD i none = d := Option.some.inj e2
        rw [← this, List.getD, List.getElem?_eq_getElem hr]; rfl
      have q := r.slot i x d e1 e3
      rw [all_false hv hi] at q ⊢
      cases x <;> cases d <;> simp only [SlotAt] at q ⊢
      exact q.mono sm
    · rw [backR_out hi] at e2
      exact r3.slot i x d (by rw [ho i hi]; exact e1) e2
  sep := fun i j a h1 h2 e1 e2 => by
    have hi : i ∉ vs := fun z => by rw [all_false hv z] at h1; cases h1
    have hj : j ∉ vs := fun z => by rw [all_false hv z] at h2; cases h2
    exact r3.sep i j a h1 h2 (by rw [ho i hi]; exact e1) (by rw [ho j hj]; exact e2)
theorem own_back (hv : vs.all (fun v => !os.getD v false) = true) (ho : ∀ i, i ∉ vs → σ2[i]? = σ[i]?) {a : Addr} : Own os σ2 a ↔ Own os σ a := by
  constructor
  · rintro ⟨i, h1, h2⟩
    have hi : i ∉ vs := fun z => by rw [all_false hv z] at h1; cases h1
    exact ⟨i, h1, by rw [← ho i hi]; exact h2⟩
  · rintro ⟨i, h1, h2⟩
    have hi : i ∉ vs := fun z => by rw [all_false hv z] at h1; cases h1
    exact ⟨i, h1, by rw [ho i hi]; exact h2⟩
end

/-! ### the block's judgements, for every start -/
abbrev W0 : WX := fun _ _ _ _ => False
def VTs (X : Cx) (W : WX) (os : Os) (es : List Expr) (f : Rho → Out (Bool × Rho)) (os' : Os) : Prop :=
  ∃ t, PTs X es t ∧ ∀ S σ H ρ Q, Rel X.K S H os σ ρ → Post X W S H os σ os' RB Q (f ρ) → t σ H Q
def tYesF : Rho → Out (Bool × Rho) := fun ρ => .ok (true, ρ)
theorem vts_nil {X : Cx} {W : WX} {os : Os} : VTs X W os [] tYesF os := ⟨_, pts_nil, fun S σ H ρ Q rel P => P.fin (os' := os) rel rfl⟩
theorem vts_one {X : Cx} {W : WX} {os os1 : Os} {c : Expr} {f : Rho → Out (Bool × Rho)} (h : VT X W os c f os1) : VTs X W os [c] f os1 := by
  obtain ⟨t, p, k⟩ := h
  exact ⟨t, pts_one p, k⟩

def compL (vs : List Nat) (b : D → Rho → Option Rho) (tt : Rho → Out (Bool × Rho)) (fe : Rho → Out (D × Rho)) : List D → Rho → Out (List D × Rho)
  | [], ρ => .ok ([], ρ)
  | x :: xs, ρ => match b x (wipeR ρ vs) with
    | none => .stuck
    | some ρ1 => match tt ρ1 with
      | .ok (true, ρ2) => match fe ρ2 with
        | .ok (d, ρ3) => (compL vs b tt fe xs (backR vs ρ ρ3)).bind fun p => .ok (d :: p.1, p.2)
        | _ => .stuck
      | .ok (false, ρ2) => compL vs b tt fe xs (backR vs ρ ρ2)
      | _ => .stuck
def eComp (vs : List Nat) (fi : Rho → Out (List D × Rho)) (b : D → Rho → Option Rho) (tt : Rho → Out (Bool × Rho)) (fe : Rho → Out (D × Rho)) : Rho → Out (D × Rho) := fun ρ =>
  (fi ρ).bind fun p => (compL vs b tt fe p.1 p.2).bind fun q => .ok (.lst q.1, q.2)
theorem compL_exc {vs : List Nat} {b : D → Rho → Option Rho} {tt : Rho → Out (Bool × Rho)} {fe : Rho → Out (D × Rho)} : ∀ {xs : List D} {ρ : Rho} {c fs}, compL vs b tt fe xs ρ ≠ .exc c fs
  | [], ρ, c, fs, h => by cases h
  | x :: xs, ρ, c, fs, h => by
    unfold compL at h
    split at h
    · cases h
    · split at h
      · split at h
        · cases e : compL vs b tt fe xs (backR vs ρ _) with
          | ok z => rw [e] at h; cases h
          | exc c fs => exact compL_exc e
          | stuck => rw [e] at h; cases h
        · cases h
      · exact compL_exc h
      · cases h

section
variable {X : Cx} {W : WX} {L : Lc} {os os1 os2 os3 osN : Os} {elt tg iter : Expr} {ifs : List Expr} {scope : Scope} {own : List (Str × Nat)} {pos : Pos} {ch : List Nat}
  {fi : Rho → Out (List D × Rho)} {b : D → Rho → Option Rho} {tt : Rho → Out (Bool × Rho)} {fe : Rho → Out (D × Rho)}
abbrev blkX (X : Cx) (scope : Scope) (s : Shared) (H : Hp) (C : Addr) (cl : List (Str × Addr)) (fp : List Addr) : Cx := X.blk s H scope (compEnvC scope cl C X.env) fp
theorem uniG (hg : ∀ s H C cl fp, VG (blkX X scope s H C cl fp) os tg b ch os1) : ∃ t : TG, (∀ s H C cl fp, PG (blkX X scope s H C cl fp) tg t) ∧
    ∀ S σ H ρ v d ρ' Q, Rel X.K S H os σ ρ → At X.K S v d → b d ρ = some ρ' → (∀ σ', Rel X.K S H os1 σ' ρ' → ChOn ch σ σ' → (∀ a, Own os1 σ' a → Own os σ a) → Q σ' H) → t v σ H Q := by
  refine ⟨fun v σ H Q => ∀ s H0 C cl fp, Classical.choose (hg s H0 C cl fp) v σ H Q, fun s H C cl fp => ⟨fun pins s' σ H' v u Q I r h => ?_⟩, fun S σ H ρ v d ρ' Q rel hv hb hq s H0 C cl fp => ?_⟩
  · exact (Classical.choose_spec (hg s H C cl fp)).1.run pins s' σ H' v u Q I r (h s H C cl fp)
  · exact (Classical.choose_spec (hg s H0 C cl fp)).2 S σ H ρ v d ρ' Q rel hv hb hq
theorem uniE (he : ∀ s H C cl fp, VE (blkX X scope s H C cl fp) W0 os elt fe os1 false) : ∃ t : TE, (∀ s H C cl fp, PE (blkX X scope s H C cl fp) elt t) ∧
    ∀ S σ H ρ Q, Rel X.K S H os σ ρ → Post X W0 S H os σ os1 (RV X.K false) Q (fe ρ) → t σ H Q := by
  refine ⟨fun σ H Q => ∀ s H0 C cl fp, Classical.choose (he s H0 C cl fp) σ H Q, fun s H C cl fp => ⟨fun pins s' σ H' Q I h => ?_⟩, fun S σ H ρ Q rel P s H0 C cl fp => ?_⟩
  · exact (Classical.choose_spec (he s H C cl fp)).1.run pins s' σ H' Q I (h s H C cl fp)
  · exact (Classical.choose_spec (he s H0 C cl fp)).2 S σ H ρ Q rel (by cases h : fe ρ <;> rw [h] at P <;> exact P)
theorem uniT (ht : ∀ s H C cl fp, VTs (blkX X scope s H C cl fp) W0 os ifs tt os1) : ∃ t : TT, (∀ s H C cl fp, PTs (blkX X scope s H C cl fp) ifs t) ∧
    ∀ S σ H ρ Q, Rel X.K S H os σ ρ → Post X W0 S H os σ os1 RB Q (tt ρ) → t σ H Q := by
  refine ⟨fun σ H Q => ∀ s H0 C cl fp, Classical.choose (ht s H0 C cl fp) σ H Q, fun s H C cl fp => ⟨fun pins s' σ H' Q I h => ?_⟩, fun S σ H ρ Q rel P s H0 C cl fp => ?_⟩
  · exact (Classical.choose_spec (ht s H C cl fp)).1.run pins s' σ H' Q I (h s H C cl fp)
  · exact (Classical.choose_spec (ht s H0 C cl fp)).2 S σ H ρ Q rel (by cases h : tt ρ <;> rw [h] at P <;> exact P)

theorem lc_read {wi : TI} {g : TG} {t1 : TT} {te : TE} {vs : List Nat} (ki : ∀ S σ H ρ R, Rel X.K S H os σ ρ → Post X W S H os σ os1 (RI X.K) R (fi ρ) → wi σ H R)
    (kg : ∀ S σ H ρ v d ρ' Q, Rel X.K S H os1 σ ρ → At X.K S v d → b d ρ = some ρ' → (∀ σ', Rel X.K S H os2 σ' ρ' → ChOn ch σ σ' → (∀ a, Own os2 σ' a → Own os1 σ a) → Q σ' H) → g v σ H Q)
    (kt : ∀ S σ H ρ Q, Rel X.K S H os2 σ ρ → Post X W0 S H os2 σ os1 RB Q (tt ρ) → t1 σ H Q) (ke : ∀ S σ H ρ Q, Rel X.K S H os1 σ ρ → Post X W0 S H os1 σ os1 (RV X.K false) Q (fe ρ) → te σ H Q)
    (hch : ∀ i ∈ ch, i ∈ vs) (hv : vs.all (fun v => !os1.getD v false) = true) : ∀ S σ H ρ Q, Rel X.K S H os σ ρ → Post X W S H os σ os1 (RV X.K true) Q (eComp vs fi b tt fe ρ) → tLc wi g t1 te vs σ H Q := by
  intro S σ H ρ Q rel P
  refine ki S σ H ρ _ rel (Post.seq P (fun z => z) (fun c fs p => p) fun items ρ1 J S1 H1 st1 rel1 q1 P1 => ?_)
  obtain ⟨hz, q1⟩ := q1
  have P1 : Post X W S1 H1 os1 σ os1 (RV X.K true) Q ((compL vs b tt fe items ρ1).bind fun q => .ok (.lst q.1, q.2)) := P1.step RV.ok st1
  intro D0 hD
  cases hc : compL vs b tt fe items ρ1 with
  | stuck => rw [hc] at P1; exact P1.elim
  | exc c fs => exact (compL_exc hc).elim
  | ok z =>
    obtain ⟨ds, ρe⟩ := z
    rw [hc] at P1
    refine ⟨fun i m H' => i + m = items.length ∧ ∃ S' ρ' accV acc dsr, Same S1 S' ∧ Ext (Own os1 σ) S1 H1 S' H' ∧ Rel X.K S' H' os1 σ ρ' ∧ S' D0 = none ∧ H' D0 = some (.lst accV) ∧ AtL X.K S' accV acc ∧ compL vs b tt fe (items.drop i) ρ' = .ok (dsr, ρe) ∧ ds = acc ++ dsr ∧ acc.length ≤ i,
      ⟨items.length, by omega, S1, ρ1, [], [], ds, Same.refl _, Ext.newO rel1.sub hD, rel1.newO hD, rel1.sub.free hD, upd_same, .nil, hc, rfl, Nat.le_refl _⟩, ?_⟩
    rintro i m H' ⟨hm, S', ρ', accV, acc, dsr, s1, x1, rel', nD, eD, hacc, hcl, hds, hal⟩
    obtain ⟨hstop, hgo⟩ := q1 i S' H' s1 rel'.sub
    by_cases hlt : i < items.length
    · have ed := List.getElem?_eq_getElem hlt
      obtain ⟨go, hy⟩ := hgo _ ed
      rw [List.drop_eq_getElem_cons hlt] at hcl
      unfold compL at hcl
      refine .inr ⟨go, fun H'' => ∃ S'' ρ'' accV' acc' dsr', Same S1 S'' ∧ Ext (Own os1 σ) S1 H1 S'' H'' ∧ Rel X.K S'' H'' os1 σ ρ'' ∧ S'' D0 = none ∧ H'' D0 = some (.lst accV') ∧ AtL X.K S'' accV' acc' ∧ compL vs b tt fe (items.drop (i + 1)) ρ'' = .ok (dsr', ρe) ∧ ds = acc' ++ dsr' ∧ acc'.length ≤ i + 1,
        fun H'' h => ⟨m - 1, by omega, by omega, h⟩, fun x H2 y => ?_⟩
      obtain ⟨S2, x2, hat⟩ := hy x H2 y
      have rel2 := rel'.ext0 x2
      obtain ⟨eD2, nD2⟩ := x2.fr D0 _ eD nD fun z => z
      have hacc2 := hacc.mono x2.s
      cases eb : b items[i] (wipeR ρ' vs) with
      | none => rw [eb] at hcl; cases hcl
      | some ρ2 =>
        rw [eb] at hcl
        dsimp only at hcl
        refine kg S2 (wipe σ vs) H2 (wipeR ρ' vs) x _ ρ2 _ (rel2.wipe hv) hat eb fun σ3 rel3 f3 o3 => ?_
        refine ⟨wipe_eq f3 hch, ?_⟩
        have hl3 : σ3.length = σ.length := by rw [f3.1, wipe_length]
        have ho3 : ∀ i, i ∉ vs → σ3[i]? = σ[i]? := fun i hi => by rw [f3.2 i fun z => hi (hch i z), wipe_out hi]
        -- the result's cell is nobody's
        have noD : ∀ {K S H os σ ρ}, Rel K S H os σ ρ → H D0 ≠ none → S D0 = none → (Own os σ D0 → False) → True := fun _ _ _ _ => trivial
        have nown : ¬ Own os1 σ D0 := fun z => by
          obtain ⟨_, o, eo⟩ := rel1.owned z
          rw [hD] at eo; cases eo
        have nown2 : ¬ Own os2 σ3 D0 := fun z => nown ((own_wipe hv).mp (o3 D0 z))
        have sub3 : ∀ a, Own os2 σ3 a → Own os1 σ a := fun a z => (own_wipe hv).mp (o3 a z)
        cases et : tt ρ2 with
        | stuck => rw [et] at hcl; cases hcl
        | exc c fs => rw [et] at hcl; cases hcl
        | ok z =>
          obtain ⟨bb, ρ3⟩ := z
          rw [et] at hcl
          refine kt S2 σ3 H2 ρ2 _ rel3 ?_
          rw [et]
          intro b' S4 H4 st4 rel4 q4
          cases q4
          obtain ⟨eD4, nD4⟩ := st4.ext.fr D0 _ eD2 nD2 nown2
          have x4 : Ext (Own os1 σ) S2 H2 S4 H4 := st4.ext.weak sub3
          have xa : Ext (Own os1 σ) S1 H1 S4 H4 := x1.trans ((x2.weak fun _ z => z.elim).trans x4 fun c z => .inl z) fun c z => .inl z
          cases bb with
          | false =>
            dsimp only at hcl
            rw [if_neg Bool.false_ne_true]
            exact ⟨S4, backR vs ρ' ρ3, accV, acc, dsr, xa.s, xa, rel2.back hv st4.ext.s rel4 hl3 ho3, nD4, eD4, hacc2.mono st4.ext.s, hcl, hds, by omega⟩
          | true =>
            dsimp only at hcl
            rw [if_pos rfl]
            cases ee : fe ρ3 with
            | stuck => rw [ee] at hcl; cases hcl
            | exc c fs => rw [ee] at hcl; cases hcl
            | ok z =>
              obtain ⟨d, ρ4⟩ := z
              rw [ee] at hcl
              dsimp only at hcl
              refine ke S4 σ3 H4 ρ3 _ rel4 ?_
              rw [ee]
              intro v S5 H5 st5 rel5 q5
              have q5 : At X.K S5 v d := q5
              have nown4 : ¬ Own os1 σ3 D0 := fun z => nown ((own_back hv ho3).mp z)
              obtain ⟨eD5, nD5⟩ := st5.ext.fr D0 _ eD4 nD4 nown4
              cases hcc : compL vs b tt fe (items.drop (i + 1)) (backR vs ρ' ρ4) with
              | stuck => rw [hcc] at hcl; cases hcl
              | exc c fs => exact (compL_exc hcc).elim
              | ok z =>
                obtain ⟨ds', ρe'⟩ := z
                rw [hcc] at hcl
                have hcl : Out.ok (d :: ds', ρe') = Out.ok (dsr, ρe) := hcl
                injection hcl with hcl
                injection hcl with h1 h2
                subst h1 h2
                have x5 : Ext (Own os1 σ) S4 H4 S5 H5 := st5.ext.weak fun a z => (own_back hv ho3).mp z
                have xb : Ext (Own os1 σ) S1 H1 S5 H5 := xa.trans x5 fun c z => .inl z
                have accl : accV.length = acc.length := hacc.length
                have relb : Rel X.K S5 H5 os1 σ (backR vs ρ' ρ4) := rel2.back hv (st4.ext.s.trans st5.ext.s) rel5 hl3 ho3
                refine ⟨accV, eD5, by omega, S5, backR vs ρ' ρ4, accV ++ [v], acc ++ [d], ds', xb.s, ?_, ?_, nD5, upd_same, ((hacc2.mono st4.ext.s).mono st5.ext.s).append (.cons q5 .nil), hcc, by rw [hds, List.append_assoc]; rfl, by rw [List.length_append]; simp; omega⟩
                · refine ⟨xb.s, fun c o e => ?_, fun c o e n no => ?_, fun c e => ?_⟩
                  · have hcD : c ≠ D0 := fun z => by rw [z, nD5] at e; cases e
                    rw [upd_ne hcD]; exact xb.sh c o e
                  · obtain ⟨e1, n1⟩ := xb.fr c o e n no
                    have hcD : c ≠ D0 := fun z => by rw [z, hD] at e; cases e
                    rw [upd_ne hcD]; exact ⟨e1, n1⟩
                  · by_cases hcD : c = D0
                    · rw [hcD, upd_same] at e; cases e
                    · rw [upd_ne hcD] at e; exact xb.there c e
                · refine relb.grow (S' := S5) (H' := upd H5 D0 (.lst (accV ++ [v]))) (O := fun c => c = D0) ⟨Same.refl _, fun c o e => ?_, fun c o e n no => ?_, fun c e => ?_⟩ fun c z hz => nown (hz ▸ z)
                  · have hcD : c ≠ D0 := fun z => by rw [z, nD5] at e; cases e
                    rw [upd_ne hcD]; exact relb.sub c o e
                  · rw [upd_ne no]; exact ⟨e, n⟩
                  · by_cases hcD : c = D0
                    · rw [hcD, upd_same] at e; cases e
                    · rw [upd_ne hcD] at e; exact e
    · refine .inl ⟨hstop (by omega), ?_⟩
      rw [List.drop_of_length_le (by omega)] at hcl
      have hcl : Out.ok ([], ρ') = Out.ok (dsr, ρe) := hcl
      injection hcl with hcl
      injection hcl with h1 h2
      subst h1 h2
      rw [List.append_nil] at hds
      subst hds
      exact P1 (.ref D0) S' H' ⟨x1, fun a q => .inl q⟩ rel' ⟨OwnAt.mkL (ds := ds) nD eD (by omega) hacc, fun a e => by cases e; exact hD⟩

/-- [elt for tg in iter if ..] -/
theorem ve_lc (ok : BlkOk X.N X.env.scope scope own) (hi : VI X W os tg iter fi os1) (hg : ∀ s H C cl fp, VG (blkX X scope s H C cl fp) os1 tg b ch os2) (ht : ∀ s H C cl fp, VTs (blkX X scope s H C cl fp) W0 os2 ifs tt os1)
    (he : ∀ s H C cl fp, VE (blkX X scope s H C cl fp) W0 os1 elt fe os1 false) (hN : X.N.Nodup) (hch : ∀ i ∈ ch, i ∈ own.map (·.2) := by decide) (hv : (own.map (·.2)).all (fun v => !os1.getD v false) = true := by rfl) (hc : X.calm = true := by rfl) (hs : ∀ x, foldedSetIterable iter X.env x = pure x := by intro _; rfl) :
    VE X W os (.ListComp elt [⟨tg, iter, ifs, 0⟩] scope pos) (eComp (own.map (·.2)) fi b tt fe) os1 true := by
  obtain ⟨wi, pi, ki⟩ := hi
  obtain ⟨g, pg, kg⟩ := uniG hg
  obtain ⟨t1, pt, kt⟩ := uniT ht
  obtain ⟨te, pe, ke⟩ := uniE he
  exact ⟨_, pe_lc hc hN pi ok pg pt pe hs, lc_read ki kg kt ke hch hv⟩
/-- x = [elt for ..], x a plain local name: it owns the list -/
theorem vs_setLc (i : Nat) {x : Str} {p spos : Pos} (ok : BlkOk X.N X.env.scope scope own) (hi : VI X W os tg iter fi os1) (hg : ∀ s H C cl fp, VG (blkX X scope s H C cl fp) os1 tg b ch os2) (ht : ∀ s H C cl fp, VTs (blkX X scope s H C cl fp) W0 os2 ifs tt os1)
    (he : ∀ s H C cl fp, VE (blkX X scope s H C cl fp) W0 os1 elt fe os1 false) (hN : X.N.Nodup) (hsw : swapsWith (.ListComp elt [⟨tg, iter, ifs, 0⟩] scope pos) (some (.Name x p)) spos.line X.env = pure true) (hx : X.N[i]? = some x := by rfl) (hxl : X.env.scope.names.lookup x = some .local := by rfl) (hfi : L.fx.getD i false = false := by rfl) (hio : i < os1.length := by decide) (hle : Le os1 os := by rfl)
    (hch : ∀ i ∈ ch, i ∈ own.map (·.2) := by decide) (hv : (own.map (·.2)).all (fun v => !os1.getD v false) = true := by rfl) (hc : X.calm = true := by rfl) (hs : ∀ x, foldedSetIterable iter X.env x = pure x := by intro _; rfl) :
    VS X W L os (.Assign [.Name x p] (.ListComp elt [⟨tg, iter, ifs, 0⟩] scope pos) spos) (sSet i (eComp (own.map (·.2)) fi b tt fe)) (os1.set i true) := by
  obtain ⟨wi, pi, ki⟩ := hi
  obtain ⟨g, pg, kg⟩ := uniG hg
  obtain ⟨t1, pt, kt⟩ := uniT ht
  obtain ⟨te, pe, ke⟩ := uniE he
  refine ⟨_, ps_setLc hc hN hx hxl hsw pi ok pg pt pe hs, fun S σ H ρ Ds rel P => ?_⟩
  refine lc_read ki kg kt ke hch hv S σ H ρ _ rel (Post.seq P (fun z => z) (fun _ _ p S' H' cls dd e q => p σ S' H' cls dd e q) fun d ρ1 v S1 H1 s1 r1 q1 P1 => ?_)
  refine P1 _ S1 H1 ⟨s1.ext, fun a q => ?_⟩ (fix_set hfi) (r1.setO q1.1 (fun a ea j hj ho hs => ?_) hio)
  · rcases own_setO q with q | q
    · exact s1.own a q
    · exact .inr (q1.2 a q)
  · obtain ⟨n, o, eo⟩ := rel.owned ⟨j, getD_le hle ho, hs⟩
    rw [q1.2 a ea] at eo
    cases eo
/-- what a name owns stands behind a statement -/
theorem VS.fz {st : Stmt} {g : Rho → Out Fl} (i : Nat) (h : VS X W L os st g osN) : VS X W L os st g (osN.set i false) := by
  obtain ⟨t, p, k⟩ := h
  refine ⟨t, p, fun S σ H ρ Ds rel P => k S σ H ρ Ds rel ?_⟩
  cases e : g ρ with
  | ok z =>
    rw [e] at P
    cases z with
    | nx ρ' =>
      intro σ' S' H' s' f' r'
      obtain ⟨S'', _, r'', s'', _⟩ := freeze1 r' i
      exact P σ' S'' H' (s'.trans s'') f' r''
    | bk ρ' => exact P
    | ct ρ' => exact P
    | rt d ρ' => exact P
  | exc c fs => rw [e] at P; exact P
  | stuck => rw [e] at P; exact P
theorem VSs.fz {st : List Stmt} {g : Rho → Out Fl} (i : Nat) (h : VSs X W L os st g osN) : VSs X W L os st g (osN.set i false) := by
  obtain ⟨t, p, k⟩ := h
  refine ⟨t, p, fun S σ H ρ Ds rel P => k S σ H ρ Ds rel ?_⟩
  cases e : g ρ with
  | ok z =>
    rw [e] at P
    cases z with
    | nx ρ' =>
      intro σ' S' H' s' f' r'
      obtain ⟨S'', _, r'', s'', _⟩ := freeze1 r' i
      exact P σ' S'' H' (s'.trans s'') f' r''
    | bk ρ' => exact P
    | ct ρ' => exact P
    | rt d ρ' => exact P
  | exc c fs => rw [e] at P; exact P
  | stuck => rw [e] at P; exact P
end
end SW

set_option maxRecDepth 100000
/-! SW7: operators, comparisons, subscripts, slices, built-ins, methods that turn an owned list. -/
namespace SW
open PySem PySem.Spec PyProof.Rows L2

section
variable {X : Cx} {S H : Hp}
/-! ### numbers -/
def iop2 (c : Int → Int → Bool) (g : Int → Int → D) : D → D → Option D
  | .int i, .int j => if c i j = true then some (g i j) else none
  | _, _ => none
theorem op2_int {f : Value → Value → Sem Value} {C : Int → Int → Prop} {gv : Int → Int → V} {c : Int → Int → Bool} {g : Int → Int → D} (ho : OpR X f (rI C gv)) (hc : ∀ i j, c i j = true → C i j) (hg : ∀ K S i j, At K S (gv i j) (g i j)) : Op2 X f (iop2 c g) := by
  refine ⟨_, ho, fun S H x y a b d Q sub ha hb e k => ?_⟩
  cases ha with
  | int i =>
    cases hb with
    | int j =>
      have e : (if c i j = true then some (g i j) else none) = some d := e
      split at e
      · rename_i h
        cases e
        exact ⟨i, j, rfl, rfl, hc i j h, k _ S H (Ext.refl sub) (hg _ _ _ _)⟩
      · cases e
    | _ => cases e
  | _ => cases e
theorem Op2.or {f : Value → Value → Sem Value} {g1 g2 : D → D → Option D} (h1 : Op2 X f g1) (h2 : Op2 X f g2) : Op2 X f (fun a b => match g1 a b with | some c => some c | none => g2 a b) := by
  obtain ⟨r1, o1, k1⟩ := h1
  obtain ⟨r2, o2, k2⟩ := h2
  refine ⟨fun x y H Q => r1 x y H Q ∨ r2 x y H Q, fun pins s σ H x y v u Q I rx ry q => ?_, fun S H x y a b c Q sub ha hb e k => ?_⟩
  · rcases q with q | q
    · exact o1 pins s σ H x y v u Q I rx ry q
    · exact o2 pins s σ H x y v u Q I rx ry q
  · dsimp only at e
    cases e1 : g1 a b with
    | some c1 =>
      rw [e1] at e
      cases e
      exact .inl (k1 S H x y a b _ Q sub ha hb e1 k)
    | none =>
      rw [e1] at e
      exact .inr (k2 S H x y a b c Q sub ha hb e k)
def always (_ _ : Int) : Bool := true
def bits2 (i j : Int) : Bool := decide (i.natAbs.log2 + j.natAbs.log2 < 134000000) || decide (i.natAbs < 2 ^ 63) || decide (j.natAbs < 2 ^ 63)
theorem mul_wide {i j : Int} (h3 : i.natAbs.log2 + j.natAbs.log2 < 134000000) : IntMulOk i j := by
  have b : ∀ x : Int, Builtin.Int.intBits x ≤ x.natAbs.log2 + 1 := fun x => by
    unfold Builtin.Int.intBits
    split <;> omega
  have h1 := b i
  have h2 := b j
  have e : bitsLine = 134217728 := by decide
  unfold IntMulOk
  intro z
  rw [Bool.and_eq_true] at z
  have z2 : decide ((((Builtin.Int.intBits i + Builtin.Int.intBits j : Nat) : Int)) > bitsLine) = true := z.2
  have z3 := of_decide_eq_true z2
  rw [e] at z3
  omega
theorem bits2_ok {i j : Int} (h : bits2 i j = true) : IntMulOk i j := by
  unfold bits2 at h
  rw [Bool.or_eq_true, Bool.or_eq_true] at h
  rcases h with (h | h) | h
  · have h' : i.natAbs.log2 + j.natAbs.log2 < 134000000 := of_decide_eq_true h
    exact mul_wide h'
  · have h := of_decide_eq_true h
    exact .of_left (intBits_le_64 (by omega) (by omega))
  · have h := of_decide_eq_true h
    exact .of_right (intBits_le_64 (by omega) (by omega))
theorem rI0_rI {f : Value → Value → Sem Value} {g : Int → Int → V} (h : OpR X f (rI0 g)) : OpR X f (rI (fun _ _ => True) g) := fun pins s σ H x y v u Q I rx ry ⟨i, j, e1, e2, _, q⟩ => h pins s σ H x y v u Q I rx ry ⟨i, j, e1, e2, q⟩
theorem op_mulA : OpR X (binaryOp .Mult) (rI IntMulOk fun i j => .int (i * j)) := opI fun _ _ _ _ _ _ _ hc q => mul_int q hc
def fdivOk (_ j : Int) : Bool := j != 0

theorem strKeys_of {es : Array DictEntry} (h : strKeysB es = true) : StrKeys es := fun e he => by
  have q := List.all_eq_true.mp h e (Array.mem_toList_iff.mpr he)
  cases z : e.key with
  | str n t => exact ⟨n, t, rfl⟩
  | _ => rw [z] at q; cases q
theorem noneAt_of {es : Array DictEntry} {x : Str} (h : noneAt es x = true) : nsFind es x = none := by
  unfold noneAt at h
  exact Option.isNone_iff_eq_none.mp h
theorem seer_of {K : PySem.W.Frag} {h : Heap} {mg : Str → Option Value} (hK : K.In h) (hb : ∃ mb, h.Ns builtinsNs mb ∧ ∀ x : Str, x ≠ "__name__" → mb x = bootBuiltins x) (hg : h.Ns mainGlobals mg) (b : seerB K = true) : h.NoSeer := by
  unfold seerB at b
  obtain ⟨b1, b'⟩ := Bool.and_eq_true_iff.mp b
  obtain ⟨b2, b3⟩ := Bool.and_eq_true_iff.mp b'
  refine ⟨?_, ?_, hb, ?_⟩
  · split at b1
    · rename_i c d es ep sl e
      obtain ⟨k, q⟩ := Bool.and_eq_true_iff.mp b1
      obtain ⟨q1, q2⟩ := Bool.and_eq_true_iff.mp q
      exact ⟨nsFind es, ⟨_, es, ep, hK _ _ e, rfl, strKeys_of k, fun _ => rfl⟩, noneAt_of q1, noneAt_of q2⟩
    · cases b1
  · split at b2
    · rename_i c d es ep sl e
      obtain ⟨k, q1⟩ := Bool.and_eq_true_iff.mp b2
      exact ⟨nsFind es, ⟨_, es, ep, hK _ _ e, rfl, strKeys_of k, fun _ => rfl⟩, noneAt_of q1⟩
    · cases b2
  · split at b3
    · rename_i bm e
      split at b3
      · rename_i x d dt sl e2
        obtain ⟨q1, q2⟩ := Bool.and_eq_true_iff.mp b3
        refine ⟨mg, bm, _, hg, PySem.W.mg_of hK hg e, hK _ _ e2, ?_, ?_⟩
        · show Value.type x = Value.type "module"
          rw [eq_of_beq q1]
        · show some d = some builtinsNs
          rw [eq_of_beq q2]
      · cases b3
    · cases b3
/-- what a division by a divisor of any size asks of the context -/
structure Dv (X : Cx) : Prop where
  seer : seerB X.K = true
  tree : X.prog.given.tree = none
  dp : X.A.depth + 100 < recursionLimit
  st : ∃ env l, X.stack = env :: l ∧ env.scope.isGenerator = false ∧ env.scope.isCoroutine = false ∧ env.builtins = builtinsNs ∧ env.globals = mainGlobals
theorem dv_room {k : Nat} {A : Around} (r : Room k A) (h : 32 ≤ k) : A.depth + 100 < recursionLimit := by have := r.dp; omega
theorem op_fdivP (hd : Dv X) : OpR X (binaryOp .FloorDiv) (rI (fun _ j => j ≠ 0) fun i j => .int (i.fdiv j)) := by
  intro pins s σ H x y v u Q I rx ry h
  obtain ⟨i, j, rfl, rfl, hc, q⟩ := h
  obtain ⟨t, rfl⟩ := rx
  obtain ⟨t', rfl⟩ := ry
  obtain ⟨env, l, e, g1, g2, g3, g4⟩ := hd.st
  obtain ⟨mb, hb, hb2⟩ := I.ok.mod.blt
  have hN : s.heap.NoSeer := seer_of I.kIn ⟨mb, hb.keeps I.bk, hb2⟩ (I.ok.mod.glob.keeps I.bk) hd.seer
  exact floordiv_int hc ⟨.int (i.fdiv j), H, I.tok _, ⟨_, rfl⟩, q⟩ (.inr (PylongRoom.of I.nolimit hd.dp (SeerAt.of hN hd.tree (I.ok.frames.trans (congrArg some e)) g1 g2 g3 g4)))
def addI := iop2 always fun i j => .int (i + j)
def subD := iop2 always fun i j => .int (i - j)
def mulI := iop2 bits2 fun i j => .int (i * j)
def fdivD := iop2 fdivOk fun i j => .int (i.fdiv j)
def modD := iop2 (fun _ j => j != 0) fun i j => .int (i.fmod j)
def powOk (i j : Int) : Bool := decide (0 ≤ j) && decide (j ≤ 1000000) && decide (i.natAbs < 2 ^ 64)
def powD := iop2 powOk fun i j => .int (i ^ j.toNat)
theorem o_addI : Op2 X (binaryOp .Add) addI := op2_int (rI0_rI op_add) (fun _ _ _ => trivial) fun _ _ _ _ => .int _
theorem o_sub : Op2 X (binaryOp .Sub) subD := op2_int (rI0_rI op_sub) (fun _ _ _ => trivial) fun _ _ _ _ => .int _
theorem o_mulI : Op2 X (binaryOp .Mult) mulI := op2_int op_mulA (fun _ _ h => bits2_ok h) fun _ _ _ _ => .int _
theorem o_fdiv (hd : Dv X) : Op2 X (binaryOp .FloorDiv) fdivD := op2_int (op_fdivP hd) (fun _ j h => by
  unfold fdivOk at h
  simpa using h) fun _ _ _ _ => .int _
theorem o_mod : Op2 X (binaryOp .Mod) modD := op2_int op_modN (fun _ j h => by simpa using h) fun _ _ _ _ => .int _
theorem powOk_iff {i j : Int} (h : powOk i j = true) : CPow i j := by
  unfold powOk at h
  rw [Bool.and_eq_true, Bool.and_eq_true] at h
  exact ⟨of_decide_eq_true h.1.1, of_decide_eq_true h.1.2, of_decide_eq_true h.2⟩
theorem o_pow : Op2 X (binaryOp .Pow) powD := op2_int op_pow (fun _ _ h => powOk_iff h) fun _ _ _ _ => .int _
def ltI := iop2 always fun i j => .bl (decide (i < j))
def leI := iop2 always fun i j => .bl (decide (i ≤ j))
def gtI := iop2 always fun i j => .bl (decide (j < i))
def geI := iop2 always fun i j => .bl (decide (j ≤ i))
theorem o_ltI : Op2 X (compareOp .Lt) ltI := op2_int (rI0_rI op_lt) (fun _ _ _ => trivial) fun _ _ _ _ => .bl _
theorem o_gtI : Op2 X (compareOp .Gt) gtI := op2_int (rI0_rI op_gt) (fun _ _ _ => trivial) fun _ _ _ _ => .bl _
theorem o_geI : Op2 X (compareOp .GtE) geI := op2_int (rI0_rI op_ge) (fun _ _ _ => trivial) fun _ _ _ _ => .bl _
def negD : D → Option D
  | .int i => some (.int (-i))
  | _ => none
theorem o_neg : Op1 X (unaryOp .USub) negD := ⟨_, un_neg, fun S H x a c Q sub ha e k => by
  cases ha with
  | int i => cases e; exact ⟨i, rfl, k _ S H (Ext.refl sub) (.int _)⟩
  | _ => cases e⟩

/-! ### data that are compared -/
mutual
def D.py : D → Option PyData
  | .non => some .none
  | .bl b => some (.bool b)
  | .int i => some (.int i)
  | .str x => some (.str x)
  | .tup xs => (D.pyL xs).map .tuple
  | .lst xs => (D.pyL xs).map .list
  | .scr ns => some (.list (ns.map .int))
  | .dct _ => none
  | .ins _ _ => none
  | .exc _ _ => none
  | .ty _ => none
def D.pyL : List D → Option (List PyData)
  | [] => some []
  | x :: xs => match D.py x, D.pyL xs with
    | some p, some ps => some (p :: ps)
    | _, _ => none
end
theorem dp_ints {K : PySem.W.Frag} {H : Hp} : ∀ ns : List Int, DpAll K H (ns.map V.int) (ns.map PyData.int)
  | [] => .nil
  | n :: ns => .cons (.int n) (dp_ints ns)
mutual
theorem At.dp {K : PySem.W.Frag} {S : Hp} : ∀ {v : V} {d : D} {p : PyData}, At K S v d → d.py = some p → Dp K S v p
  | _, _, _, .non, e => by cases e; exact .non
  | _, _, _, .bl b, e => by cases e; exact .bl b
  | _, _, _, .int i, e => by cases e; exact .int i
  | _, _, _, .str x, e => by cases e; exact .str x
  | _, .tup ds, _, .tup h z r, e => by
    unfold D.py at e
    cases q : D.pyL ds with
    | none => rw [q] at e; cases e
    | some ps => rw [q] at e; cases e; exact .tup h (AtL.dp r q)
  | _, .lst ds, _, .lst h z r, e => by
    unfold D.py at e
    cases q : D.pyL ds with
    | none => rw [q] at e; cases e
    | some ps => rw [q] at e; cases e; exact .lst (.of h) (AtL.dp r q)
  | _, _, _, .scr h z, e => by cases e; exact .lst h (dp_ints _)
  | _, _, _, .dct _ _ _ _, e => by cases e
  | _, _, _, .ins _ _ _ _ _, e => by cases e
  | _, _, _, .exc0 _ _, e => by cases e
  | _, _, _, .exc1 _ _ _ _, e => by cases e
  | _, _, _, .ty _ _, e => by cases e
theorem AtL.dp {K : PySem.W.Frag} {S : Hp} : ∀ {vs : List V} {ds : List D} {ps : List PyData}, AtL K S vs ds → D.pyL ds = some ps → DpAll K S vs ps
  | _, _, _, .nil, e => by cases e; exact .nil
  | _, d :: ds, _, .cons h r, e => by
    unfold D.pyL at e
    cases q1 : D.py d with
    | none => rw [q1] at e; cases e
    | some p =>
      cases q2 : D.pyL ds with
      | none => rw [q1, q2] at e; cases e
      | some ps => rw [q1, q2] at e; cases e; exact .cons (At.dp h q1) (AtL.dp r q2)
end
def cmpP (g : PyData → PyData → Bool) (ok : PyData → PyData → Bool) : D → D → Option D := fun a b => match a.py, b.py with
  | some p, some q => if ok p q = true then some (.bl (g p q)) else none
  | _, _ => none
theorem cmpP_some {g ok} {a b c : D} (h : cmpP g ok a b = some c) : ∃ p q, a.py = some p ∧ b.py = some q ∧ ok p q = true ∧ c = .bl (g p q) := by
  unfold cmpP at h
  cases e1 : a.py with
  | none => rw [e1] at h; cases h
  | some p =>
    cases e2 : b.py with
    | none => rw [e1, e2] at h; cases h
    | some q =>
      rw [e1, e2] at h
      dsimp only at h
      split at h
      · rename_i ho
        cases h
        exact ⟨p, q, rfl, rfl, ho, rfl⟩
      · cases h
def shOk (p q : PyData) : Bool := SeqAt.shaped p && SeqAt.shaped q
def eqD := cmpP PyData.eqv shOk
def neD := cmpP (fun p q => !PyData.eqv p q) shOk
theorem o_eq (hu : X.A.units + 64 < cLine) : Op2 X (compareOp .Eq) eqD := ⟨_, op_eqD hu, fun S H x y a b c Q sub ha hb e k => by
  obtain ⟨p, q, e1, e2, ho, rfl⟩ := cmpP_some e
  unfold shOk at ho
  rw [Bool.and_eq_true] at ho
  exact ⟨p, q, (ha.mono sub).dp e1, (hb.mono sub).dp e2, ho.1, ho.2, k _ S H (Ext.refl sub) (.bl _)⟩⟩
theorem o_ne (hu : X.A.units + 64 < cLine) : Op2 X (compareOp .NotEq) neD := ⟨_, op_neD hu, fun S H x y a b c Q sub ha hb e k => by
  obtain ⟨p, q, e1, e2, ho, rfl⟩ := cmpP_some e
  unfold shOk at ho
  rw [Bool.and_eq_true] at ho
  exact ⟨p, q, (ha.mono sub).dp e1, (hb.mono sub).dp e2, ho.1, ho.2, k _ S H (Ext.refl sub) (.bl _)⟩⟩
def notNone : PyData → Bool
  | .none => false
  | _ => true
def alOk (p q : PyData) : Bool := PySem.W.alike p q && notNone p && decide (p.depth ≤ 64)
def rOrd (K : PySem.W.Frag) (g : PyData → PyData → Bool) : R2 := fun x y H Q => ∃ p q, Dp K H x p ∧ Dp K H y q ∧ alOk p q = true ∧ Q (.bl (g p q)) H
theorem alOk_iff {p q : PyData} (h : alOk p q = true) : PySem.W.alike p q = true ∧ p ≠ .none ∧ p.depth ≤ 64 := by
  unfold alOk at h
  rw [Bool.and_eq_true, Bool.and_eq_true] at h
  refine ⟨h.1.1, fun z => ?_, of_decide_eq_true h.2⟩
  rw [z] at h
  cases h.1.2
theorem op_ord {op : CmpOp} {g : PyData → PyData → Bool} (hu : X.A.units + 64 < cLine)
    (rule : ∀ {E : Value → Shared → Prop} {s : Shared} {a b : Value} {da db : PyData} {as bs : List Addr} {Q : Value → Shared → Prop}, Reads s.heap a da as → Reads s.heap b db bs → PySem.W.alike da db = true → da ≠ .none → X.A.units + min da.depth db.depth < cLine → Q (.bool (g da db)) s → wpAny (model X.prog X.w) X.A (compareOp op a b) Q E s) :
    OpR X (compareOp op) (rOrd X.K g) := by
  intro pins s σ H x y v u Q I rx ry h
  obtain ⟨d, e, hd, he, ok, q⟩ := h
  obtain ⟨al, nn, dp⟩ := alOk_iff ok
  obtain ⟨as, r1⟩ := Dp.reads I d x v hd rx
  obtain ⟨bs, r2⟩ := Dp.reads I e y u he ry
  exact rule r1 r2 al nn (by have := Nat.min_le_left d.depth e.depth; omega) ⟨.bl _, H, I, rfl, q⟩
theorem o_ord {op : CmpOp} {g : PyData → PyData → Bool} (h : OpR X (compareOp op) (rOrd X.K g)) : Op2 X (compareOp op) (cmpP g alOk) := ⟨_, h, fun S H x y a b c Q sub ha hb e k => by
  obtain ⟨p, q, e1, e2, ho, rfl⟩ := cmpP_some e
  exact ⟨p, q, (ha.mono sub).dp e1, (hb.mono sub).dp e2, ho, k _ S H (Ext.refl sub) (.bl _)⟩⟩
def ltD := cmpP PySem.W.dataLt alOk
def gtD := cmpP (fun p q => PySem.W.dataLt q p) alOk
def leD := cmpP (fun p q => !PySem.W.dataLt q p) alOk
def geD := cmpP (fun p q => !PySem.W.dataLt p q) alOk
theorem o_lt (hu : X.A.units + 64 < cLine) : Op2 X (compareOp .Lt) ltD := o_ord (op_ord hu fun a b c d e f => PySem.W.lt_data a b c d e f)
theorem o_gt (hu : X.A.units + 64 < cLine) : Op2 X (compareOp .Gt) gtD := o_ord (op_ord hu fun a b c d e f => PySem.W.gt_data a b c d e f)
theorem o_ge (hu : X.A.units + 64 < cLine) : Op2 X (compareOp .GtE) geD := o_ord (op_ord hu fun a b c d e f => PySem.W.ge_data a b c d e f)
/-- is None -/
def isNon : D → D → Option D
  | a, .non => some (.bl (match a with | .non => true | _ => false))
  | _, _ => none
theorem o_is : Op2 X (compareOp .Is) isNon := ⟨_, op_isN, fun S H x y a b c Q sub ha hb e k => by
  cases hb with
  | non => cases ha <;> cases e <;> exact ⟨rfl, k _ S H (Ext.refl sub) (.bl _)⟩
  | _ => cases a <;> cases e⟩
/-- in a list (or a tuple's list) of data -/
def inD : D → D → Option D := fun a b => match b with
  | .lst ds => match a.py, D.pyL ds with
    | some p, some qs => if SeqAt.shaped p = true ∧ SeqAt.shaped (.list qs) = true then some (.bl (qs.any fun z => PyData.eqv z p)) else none
    | _, _ => none
  | _ => none
theorem o_in (hu : X.A.units + 65 < cLine) : Op2 X (compareOp .In) inD := ⟨_, op_inD hu, fun S H x y a b c Q sub ha hb e k => by
  cases hb with
  | @lst aa vs ds h z r =>
    have e : (match a.py, D.pyL ds with
    | some p, some qs => if SeqAt.shaped p = true ∧ SeqAt.shaped (.list qs) = true then some (.bl (qs.any fun z => PyData.eqv z p)) else none
    | _, _ => none) = some c := e
    cases e1 : a.py with
    | none => rw [e1] at e; cases e
    | some p =>
      cases e2 : D.pyL ds with
      | none => rw [e1, e2] at e; cases e
      | some qs =>
        rw [e1, e2] at e
        dsimp only at e
        split at e
        · rename_i ho
          cases e
          exact ⟨p, qs, (ha.mono sub).dp e1, .lst (.of (sub _ _ h)) ((r.mono sub).dp e2), ho.1, ho.2, k _ S H (Ext.refl sub) (.bl _)⟩
        · cases e
  | _ => cases e⟩
/-! ### sums of tuples, lists, texts -/
def catT : D → D → Option D
  | .tup xs, .tup ys => if xs.length + ys.length ≤ sizeLine then some (.tup (xs ++ ys)) else none
  | _, _ => none
def catL : D → D → Option D
  | .lst xs, .lst ys => if xs.length + ys.length ≤ sizeLine then some (.lst (xs ++ ys)) else none
  | _, _ => none
def catS : D → D → Option D
  | .str x, .str y => if x.length + y.length ≤ sizeLine then some (.str (x ++ y)) else none
  | _, _ => none
theorem o_catT : Op2 X (binaryOp .Add) catT := ⟨_, op_catA, fun S H x y a b c Q sub ha hb e k => by
  cases ha with
  | @tup p vs xs h z r =>
    cases hb with
    | @tup p2 vs2 ys h2 z2 r2 =>
      have e : (if xs.length + ys.length ≤ sizeLine then some (D.tup (xs ++ ys)) else none) = some c := e
      split at e
      · rename_i hz
        cases e
        have l1 := r.length
        have l2 := r2.length
        refine ⟨p, p2, vs, vs2, rfl, rfl, sqT_mono sub h, sqT_mono sub h2, by rw [l1, l2]; exact hz, fun hx => ?_, fun hx hy => ?_, fun hx hy q nq => ?_⟩
        · subst hx
          cases r
          exact k _ S H (Ext.refl sub) (.tup h2 z2 r2)
        · subst hy
          cases r2
          refine k _ S H (Ext.refl sub) ?_
          rw [List.append_nil]
          exact .tup h z r
        · have xx := Ext.new (O := fun _ => False) (o := .tup (vs ++ vs2)) sub nq
          exact k _ _ _ xx (.tup (.inl (.inl upd_same)) (by rw [List.length_append]; exact hz) ((r.append r2).mono xx.s))
      · cases e
    | _ => cases e
  | _ => cases e⟩
theorem o_catL : Op2 X (binaryOp .Add) catL := ⟨_, op_cat, fun S H x y a b c Q sub ha hb e k => by
  cases ha with
  | @lst p vs xs h z r =>
    cases hb with
    | @lst p2 vs2 ys h2 z2 r2 =>
      have e : (if xs.length + ys.length ≤ sizeLine then some (D.lst (xs ++ ys)) else none) = some c := e
      split at e
      · rename_i hz
        cases e
        have l1 := r.length
        have l2 := r2.length
        refine ⟨p, p2, vs, vs2, rfl, rfl, sub _ _ h, sub _ _ h2, by rw [l1, l2]; exact hz, fun q nq => ?_⟩
        have xx := Ext.new (O := fun _ => False) (o := .lst (vs ++ vs2)) sub nq
        exact k _ _ _ xx (.lst upd_same (by rw [List.length_append]; exact hz) ((r.append r2).mono xx.s))
      · cases e
    | _ => cases e
  | _ => cases e⟩
theorem o_catS : Op2 X (binaryOp .Add) catS := ⟨_, op_add_str, fun S H x y a b c Q sub ha hb e k => by
  cases ha with
  | str i =>
    cases hb with
    | str j =>
      have e : (if i.length + j.length ≤ sizeLine then some (D.str (i ++ j)) else none) = some c := e
      split at e
      · rename_i hz
        cases e
        exact ⟨i, j, rfl, rfl, hz, k _ S H (Ext.refl sub) (.str _)⟩
      · cases e
    | _ => cases e
  | _ => cases e⟩
/-- +, whatever is added -/
def addD : D → D → Option D
  | .int i, .int j => some (.int (i + j))
  | .tup xs, .tup ys => if xs.length + ys.length ≤ sizeLine then some (.tup (xs ++ ys)) else none
  | .lst xs, .lst ys => if xs.length + ys.length ≤ sizeLine then some (.lst (xs ++ ys)) else none
  | .str x, .str y => if x.length + y.length ≤ sizeLine then some (.str (x ++ y)) else none
  | _, _ => none
theorem Op2.imp {f : Value → Value → Sem Value} {g g' : D → D → Option D} (h : Op2 X f g) (hg : ∀ a b c, g' a b = some c → g a b = some c) : Op2 X f g' := by
  obtain ⟨r, o, k⟩ := h
  exact ⟨r, o, fun S H x y a b c Q sub ha hb e q => k S H x y a b c Q sub ha hb (hg a b c e) q⟩
theorem o_add : Op2 X (binaryOp .Add) addD := (((o_addI.or o_catT).or o_catL).or o_catS).imp fun a b c h => by
  cases a <;> cases b <;> first
    | exact (nomatch (show (none : Option D) = some c from h))
    | exact h
    | (simp only [addD] at h; simp only [addI, iop2, always, catT, catL, catS]; split at h <;> simp_all)
/-- a list times a number, a tuple times a number -/
def repD : D → D → Option D
  | .int i, .int j => if bits2 i j = true then some (.int (i * j)) else none
  | .lst xs, .int k => if -9223372036854775808 ≤ k ∧ k < 9223372036854775808 ∧ xs.length * k.toNat ≤ sizeLine then some (.lst (List.replicate k.toNat xs).flatten) else none
  | .tup xs, .int k => if xs ≠ [] ∧ 2 ≤ k ∧ k ≤ 1000 ∧ xs.length ≤ 1000 then some (.tup (List.replicate k.toNat xs).flatten) else none
  | _, _ => none
theorem AtL.rep {K : PySem.W.Frag} {vs : List V} {ds : List D} (h : AtL K S vs ds) : ∀ k : Nat, AtL K S (List.replicate k vs).flatten (List.replicate k ds).flatten
  | 0 => .nil
  | k + 1 => by
    rw [List.replicate_succ, List.replicate_succ, List.flatten_cons, List.flatten_cons]
    exact h.append (AtL.rep h k)
theorem rep_len {α : Type} (ds : List α) : ∀ k : Nat, (List.replicate k ds).flatten.length = k * ds.length
  | 0 => by simp
  | k + 1 => by rw [List.replicate_succ, List.flatten_cons, List.length_append, rep_len ds k]; rw [Nat.succ_mul]; omega
def repL : D → D → Option D
  | .lst xs, .int k => if -9223372036854775808 ≤ k ∧ k < 9223372036854775808 ∧ xs.length * k.toNat ≤ sizeLine then some (.lst (List.replicate k.toNat xs).flatten) else none
  | _, _ => none
def repT : D → D → Option D
  | .tup xs, .int k => if xs ≠ [] ∧ 2 ≤ k ∧ k ≤ 1000 ∧ xs.length ≤ 1000 then some (.tup (List.replicate k.toNat xs).flatten) else none
  | _, _ => none
theorem o_repL : Op2 X (binaryOp .Mult) repL := ⟨_, op_rep, fun S H x y a b c Q sub ha hb e k => by
  cases ha with
  | @lst p vs xs h z r =>
    cases hb with
    | int j =>
      have e : (if -9223372036854775808 ≤ j ∧ j < 9223372036854775808 ∧ xs.length * j.toNat ≤ sizeLine then some (D.lst (List.replicate j.toNat xs).flatten) else none) = some c := e
      split at e
      · rename_i hz
        cases e
        refine ⟨p, j, vs, rfl, rfl, sub _ _ h, by omega, by omega, by rw [r.length]; exact hz.2.2, fun q nq => ?_⟩
        have xx := Ext.new (O := fun _ => False) (o := .lst (List.replicate j.toNat vs).flatten) sub nq
        exact k _ _ _ xx (.lst upd_same (by rw [rep_len, Nat.mul_comm]; exact hz.2.2) ((r.rep _).mono xx.s))
      · cases e
    | _ => cases e
  | _ => cases e⟩
theorem o_repT : Op2 X (binaryOp .Mult) repT := ⟨_, op_repT, fun S H x y a b c Q sub ha hb e k => by
  cases ha with
  | @tup p vs xs h z r =>
    cases hb with
    | int j =>
      have e : (if xs ≠ [] ∧ 2 ≤ j ∧ j ≤ 1000 ∧ xs.length ≤ 1000 then some (D.tup (List.replicate j.toNat xs).flatten) else none) = some c := e
      split at e
      · rename_i hz
        cases e
        refine ⟨p, j, vs, rfl, rfl, sqT_mono sub h, fun q => ?_, hz.2.1, hz.2.2.1, by rw [r.length]; exact hz.2.2.2, fun q nq => ?_⟩
        · subst q
          cases r
          exact hz.1 rfl
        · have xx := Ext.new (O := fun _ => False) (o := .tup (List.replicate j.toNat vs).flatten) sub nq
          refine k _ _ _ xx (.tup (.inl (.inl upd_same)) ?_ ((r.rep _).mono xx.s))
          rw [rep_len, sizeLine_is]
          have h1 : j.toNat ≤ 1000 := by omega
          have h2 : xs.length ≤ 1000 := hz.2.2.2
          have := Nat.mul_le_mul h1 h2
          omega
      · cases e
    | _ => cases e
  | _ => cases e⟩
theorem o_mul : Op2 X (binaryOp .Mult) repD := ((o_mulI.or o_repL).or o_repT).imp fun a b c h => by
  cases a <;> cases b <;> first
    | exact (nomatch (show (none : Option D) = some c from h))
    | exact h
    | (simp only [repD] at h; simp only [mulI, iop2, repL, repT]; split at h <;> simp_all)
end
end SW

set_option maxRecDepth 100000
/-! SW8: a look (peek), subscripts, slices, built-ins, methods that turn an owned list. -/
namespace SW
open PySem PySem.Spec PyProof.Rows L2

def flatD : D → Bool
  | .non => true
  | .bl _ => true
  | .int _ => true
  | .str _ => true
  | .ty _ => true
  | _ => false
theorem flat_at {K : PySem.W.Frag} {S S' : Hp} {v : V} {d : D} (h : At K S v d) (f : flatD d = true) : At K S' v d := by
  cases h with
  | non => exact .non
  | bl b => exact .bl b
  | int i => exact .int i
  | str x => exact .str x
  | ty n h => exact .ty n h
  | _ => cases f

section
variable {K : PySem.W.Frag} {S S' H H' : Hp} {os : Os} {σ : Sg} {ρ : Rho}
/-- what owned cells hold stands for a while -/
structure Look (S H : Hp) (os : Os) (σ : Sg) (S1 : Hp) : Prop where
  s : Same S S1
  sh : Same S1 H
  out : ∀ a, ¬ Own os σ a → S1 a = S a
  own : ∀ a, Own os σ a → S1 a = H a
theorem freezeAll (r : Rel K S H os σ ρ) : ∃ S1, Look S H os σ S1 ∧ Rel K S1 H [] σ ρ := by
  classical
  have lk : Look S H os σ (fun a => if Own os σ a then H a else S a) := by
    refine ⟨fun a o e => ?_, fun a o e => ?_, fun a z => if_neg z, fun a z => if_pos z⟩
    · have no : ¬ Own os σ a := fun z => by rw [(r.owned z).1] at e; cases e
      show (if Own os σ a then H a else S a) = some o
      rw [if_neg no]; exact e
    · have e : (if Own os σ a then H a else S a) = some o := e
      by_cases z : Own os σ a
      · rw [if_pos z] at e; exact e
      · rw [if_neg z] at e; exact r.sub a o e
  refine ⟨_, lk, ⟨lk.sh, r.len, fun i x y e1 e2 => ?_, fun i j a h1 => by simp [List.getD] at h1⟩⟩
  have q := r.slot i x y e1 e2
  have hf : ([] : Os).getD i false = false := by simp [List.getD]
  rw [hf]
  cases ho : os.getD i false <;> rw [ho] at q <;> cases x <;> cases y <;> simp only [SlotAt] at q ⊢
  · exact q.mono lk.s
  · rename_i v d
    obtain ⟨a, ea, na, q⟩ := q
    subst ea
    have own : Own os σ a := ⟨i, ho, e1⟩
    obtain ⟨o, eh, bd⟩ := q
    exact (bd.mono lk.s).at ((lk.own a own).trans eh)
/-- nothing that the slots own has been touched: they own it still -/
theorem Look.back {S1 : Hp} (lk : Look S H os σ S1) (r : Rel K S H os σ ρ) (x : Ext (Own [] σ) S1 H S' H') : Rel K S H' os σ ρ ∧ Stp os σ S H os σ S H' := by
  have keep : ∀ a o, Own os σ a → H a = some o → H' a = some o := fun a o z e => x.sh a o (x.s a o ((lk.own a z).trans e))
  have sh : Same S H' := fun a o e => x.sh a o (x.s a o (lk.s a o e))
  refine ⟨⟨sh, r.len, fun i v d e1 e2 => ?_, r.sep⟩, ⟨⟨Same.refl _, sh, fun a o e n no => ⟨?_, n⟩, x.there⟩, fun a q => .inl q⟩⟩
  · have q := r.slot i v d e1 e2
    cases ho : os.getD i false <;> rw [ho] at q <;> cases v <;> cases d <;> simp only [SlotAt] at q ⊢
    · exact q
    · rename_i v d
      obtain ⟨a, ea, na, q⟩ := q
      subst ea
      have own : Own os σ a := ⟨i, ho, e1⟩
      refine ⟨a, rfl, na, ?_⟩
      obtain ⟨o, eh, bd⟩ := q
      exact ⟨o, keep a _ own eh, bd⟩
  · exact (x.fr a o e ((lk.out a no).trans n) fun z => own_nil z).1
theorem Look.exc {S1 : Hp} (lk : Look S H os σ S1) (x : Ext (Own [] σ) S1 H S' H') : Ext (Own os σ) S H S' H' :=
  ⟨lk.s.trans x.s, x.sh, fun a o e n no => x.fr a o e ((lk.out a no).trans n) fun z => own_nil z, x.there⟩
end

section
variable {X : Cx} {W : WX} {L : Lc} {os os1 os2 os3 osN : Os} {e e1 e2 : Expr} {f f1 f2 : Rho → Out (D × Rho)} {pos p apos : Pos} {es : List Expr} {g : Rho → Out (List D × Rho)}
def ePeek (f : Rho → Out (D × Rho)) : Rho → Out (D × Rho) := fun ρ => (f ρ).bind fun p => if flatD p.1 = true then .ok (p.1, ρ) else .stuck
def tPeek (f : Rho → Out (Bool × Rho)) : Rho → Out (Bool × Rho) := fun ρ => (f ρ).bind fun p => .ok (p.1, ρ)
/-- an expression that turns nothing and gives a number, a truth, a text: what is owned stays owned -/
theorem ve_peek (h : VE X W [] e f os1 false) (hos : os1 = [] := by rfl) : VE X W os e (ePeek f) os false := by
  subst hos
  obtain ⟨t, p, k⟩ := h
  refine ⟨t, p, fun S σ H ρ Q rel P => ?_⟩
  obtain ⟨S1, lk, rel1⟩ := freezeAll rel
  refine k S1 σ H ρ Q rel1 ?_
  unfold ePeek at P
  cases h : f ρ with
  | exc c fs => rw [h] at P; exact fun S' H' cls dd x q => P S' H' cls dd (lk.exc x) q
  | stuck => rw [h] at P; exact P.elim
  | ok z =>
    obtain ⟨d, ρ'⟩ := z
    rw [h] at P
    have P : Post X W S H os σ os (RV X.K false) Q (if flatD d = true then .ok (d, ρ) else .stuck) := P
    split at P
    · rename_i hf
      intro v S' H' st _ hv
      obtain ⟨rel2, st2⟩ := lk.back rel st.ext
      exact P v S H' st2 rel2 (flat_at (show At X.K S' v d from hv) hf)
    · exact P.elim
theorem vt_peek {c : Expr} {g : Rho → Out (Bool × Rho)} (h : VT X W [] c g os1) (hos : os1 = [] := by rfl) : VT X W os c (tPeek g) os := by
  subst hos
  obtain ⟨t, p, k⟩ := h
  refine ⟨t, p, fun S σ H ρ Q rel P => ?_⟩
  obtain ⟨S1, lk, rel1⟩ := freezeAll rel
  refine k S1 σ H ρ Q rel1 ?_
  unfold tPeek at P
  cases h : g ρ with
  | exc c fs => rw [h] at P; exact fun S' H' cls dd x q => P S' H' cls dd (lk.exc x) q
  | stuck => rw [h] at P; exact P.elim
  | ok z =>
    obtain ⟨d, ρ'⟩ := z
    rw [h] at P
    intro v S' H' st _ hv
    obtain ⟨rel2, st2⟩ := lk.back rel st.ext
    exact P v S H' st2 rel2 hv

/-! ### subscripts -/
def strIx (z : Str) (i : Int) : Option D := if z.length ≤ sizeLine then (atI z.cps.toList i).map fun c => .str ⟨#[c]⟩ else none
def ixD : D → D → Option D
  | .lst ds, .int i => atI ds i
  | .tup ds, .int i => atI ds i
  | .scr ns, .int i => (atI ns i).map .int
  | .str z, .int i => strIx z i
  | _, _ => none
theorem atI_at {K : PySem.W.Frag} {S : Hp} {vs : List V} {ds : List D} {i : Int} {d : D} (r : AtL K S vs ds) (h : atI ds i = some d) : ∃ v, atI vs i = some v ∧ At K S v d := by
  unfold atI at h ⊢
  rw [r.length]
  cases e : ixN ds.length i with
  | none => rw [e] at h; cases h
  | some j => rw [e] at h; exact r.get h
theorem atI_map {α β : Type} {f : α → β} {xs : List α} {i : Int} : atI (xs.map f) i = (atI xs i).map f := by
  unfold atI
  rw [List.length_map]
  cases ixN xs.length i with
  | none => rfl
  | some j => simp
theorem ix_read {K : PySem.W.Frag} {S H : Hp} {x y : V} {a b c : D} {Q : VK} (sub : Same S H) (ha : At K S x a) (hb : At K S y b) (e : ixD a b = some c) (k : ∀ v, At K S v c → Q v H) : rIx K x y H Q := by
  cases hb with
  | int i =>
    cases ha with
    | @lst p vs ds h z r =>
      obtain ⟨v, ev, hv⟩ := atI_at r (show atI ds i = some c from e)
      exact .inl ⟨p, vs, i, v, rfl, rfl, .of (sub _ _ h), ev, k v hv⟩
    | @tup p vs ds h z r =>
      obtain ⟨v, ev, hv⟩ := atI_at r (show atI ds i = some c from e)
      exact .inr (.inl ⟨p, vs, i, v, rfl, rfl, sqT_mono sub h, ev, k v hv⟩)
    | @scr p ns h z =>
      have e : (atI ns i).map D.int = some c := e
      cases en : atI ns i with
      | none => rw [en] at e; cases e
      | some n =>
        rw [en] at e
        cases e
        exact .inl ⟨p, _, i, .int n, rfl, rfl, sub.seq h, by rw [atI_map, en]; rfl, k _ (.int n)⟩
    | str z =>
      have e : (if z.length ≤ sizeLine then (atI z.cps.toList i).map fun c => D.str ⟨#[c]⟩ else none) = some c := e
      split at e
      · rename_i hz
        cases en : atI z.cps.toList i with
        | none => rw [en] at e; cases e
        | some n =>
          rw [en] at e
          cases e
          exact .inr (.inr ⟨z, i, n, rfl, rfl, hz, en, k _ (.str _)⟩)
      · cases e
    | _ => cases e
  | _ => cases a <;> cases e
theorem ve_ix (ha : VE X W os e1 f1 os1 false) (hb : VE X W os1 e2 f2 os2 false) (hs : PlainIx e2 := by exact fun _ _ => rfl) : VE X W os (.Subscript e1 e2 pos) (eOp2 ixD f1 f2) os2 false := by
  obtain ⟨ta, pa, ka⟩ := ha
  obtain ⟨tb, pb, kb⟩ := hb
  refine ⟨_, pe_ix ix_seq pa pb hs, fun S σ H ρ Q rel P => ?_⟩
  refine ka S σ H ρ _ rel (Post.seq P (fun z => z) (fun c fs p => p) fun d ρ1 v S1 H1 st1 rel1 q1 P1 => ?_)
  have P1 := P1.step RV.ok st1
  refine kb S1 σ H1 ρ1 _ rel1 (Post.seq P1 (fun z => z) (fun c fs p => p) fun d2 ρ2 v2 S2 H2 st2 rel2 q2 P2 => ?_)
  obtain ⟨c, hc, k⟩ := post_of (P2.step RV.ok st2) rel2
  exact ix_read rel2.sub (At.mono st2.ext.s q1) q2 hc fun v hv => k v S2 H2 (Ext.refl rel2.sub) hv
/-- x[e], x an owning name -/
def eIxO (i : Nat) (f : Rho → Out (D × Rho)) : Rho → Out (D × Rho) := fun ρ => (f ρ).bind fun p => match p.2.getD i none with
  | some d => (Out.of (ixD d p.1)).bind fun c => .ok (c, p.2)
  | none => .stuck
theorem getD_some {ρ : Rho} {i : Nat} {d : D} (h : ρ.getD i none = some d) : ρ[i]? = some (some d) := by
  cases q : ρ[i]? with
  | none => simp [List.getD, q] at h
  | some y => simp [List.getD, q] at h; rw [h]
theorem ve_ixO (i : Nat) {x : Str} (hb : VE X W os e2 f2 os1 false) (ho : os.getD i false = true := by rfl) (ho1 : os1.getD i false = true := by rfl) (hN : X.N[i]? = some x := by rfl) (hv : Vis X.env.scope x := by first | exact Or.inl rfl | exact Or.inr (Or.inl rfl) | exact Or.inr (Or.inr rfl))
    (hs : PlainIx e2 := by exact fun _ _ => rfl) (hd : (x == ("__debug__" : Str)) = false := by decide) (hcd : (x == ("__classdict__" : Str)) = false := by decide) : VE X W os (.Subscript (.Name x p) e2 pos) (fun ρ => match ρ.getD i none with | some _ => eIxO i f2 ρ | none => .stuck) os1 false := by
  obtain ⟨tb, pb, kb⟩ := hb
  refine ⟨_, pe_ix ix_seq (pe_var hN hv hd hcd) pb hs, fun S σ H ρ Q rel P => ?_⟩
  cases h0 : ρ.getD i none with
  | none => dsimp only at P; rw [h0] at P; exact P.elim
  | some d0 =>
    dsimp only at P; rw [h0] at P
    obtain ⟨v, ev, _⟩ := rel.own (getD_some h0) ho
    refine ⟨v, ev, ?_⟩
    refine kb S σ H ρ _ rel (Post.seq P (fun z => z) (fun c fs p => p) fun d2 ρ2 v2 S2 H2 st2 rel2 q2 P2 => ?_)
    have P2 := P2.step RV.ok st2
    dsimp only at P2
    cases h1 : ρ2.getD i none with
    | none => rw [h1] at P2; exact P2.elim
    | some d1 =>
      rw [h1] at P2
      obtain ⟨v', ev', hown⟩ := rel2.own (getD_some h1) ho1
      rw [ev] at ev'
      cases ev'
      obtain ⟨c, hc, k⟩ := post_of P2 rel2
      obtain ⟨a, ea, na, q⟩ := hown
      subst ea
      have q2 : At X.K S2 v2 d2 := q2
      obtain ⟨o, eh, bd⟩ := q
      cases bd with
      | @lst vs ds z rl =>
        cases q2 with
        | int j =>
          obtain ⟨w, ew, hw⟩ := atI_at rl (show atI ds j = some c from hc)
          exact .inl ⟨a, vs, j, w, rfl, rfl, .of eh, ew, k w S2 H2 (Ext.refl rel2.sub) hw⟩
        | _ => cases hc
      | _ => cases q2 <;> cases hc

/-! ### slices -/
def VO (X : Cx) (W : WX) (os : Os) (e : Option Expr) (f : Rho → Out (Option Int × Rho)) (os' : Os) : Prop :=
  ∃ t, PO X e t ∧ ∀ S σ H ρ Q, Rel X.K S H os σ ρ → Post X W S H os σ os' (fun _ _ _ b d => b = d) Q (f ρ) → t σ H Q
def oNone : Rho → Out (Option Int × Rho) := fun ρ => .ok (none, ρ)
def oSome (f : Rho → Out (D × Rho)) : Rho → Out (Option Int × Rho) := fun ρ => (f ρ).bind fun p => match p.1 with
  | .int i => .ok (some i, p.2)
  | _ => .stuck
theorem rid_ok {α : Type} : RR.Ok (fun _ _ _ (b d : α) => b = d) := fun _ _ _ _ _ _ _ q => q
theorem vo_none : VO X W os none oNone os := ⟨_, po_none, fun S σ H ρ Q rel P => P.fin (os' := os) rel rfl⟩
theorem vo_some (h : VE X W os e f os1 false) : VO X W os (some e) (oSome f) os1 := by
  obtain ⟨t, p, k⟩ := h
  refine ⟨_, po_some p, fun S σ H ρ Q rel P => ?_⟩
  refine k S σ H ρ _ rel (Post.seq P (fun z => z) (fun c fs p => p) fun d ρ1 v S1 H1 st1 rel1 q1 P1 => ?_)
  cases q1 with
  | int i => exact ⟨i, rfl, (P1.step rid_ok st1).fin (os' := os1) rel1 rfl⟩
  | _ => exact P1.elim
def cutD (xs : List D) (lo hi : Option Int) : List D := (xs.drop (HT.sIx xs.length 0 lo)).take (HT.sIx xs.length xs.length hi - HT.sIx xs.length 0 lo)
theorem AtL.cut {K : PySem.W.Frag} {S : Hp} {vs : List V} {ds : List D} (r : AtL K S vs ds) (lo hi : Option Int) : AtL K S (cutV vs lo hi) (cutD ds lo hi) := by
  unfold cutV cutD
  rw [r.length]
  exact (r.drop _).take _
def sliceD : D → Option Int → Option Int → Option D
  | .lst xs, lo, hi => some (.lst (cutD xs lo hi))
  | .tup xs, lo, hi => some (.tup (cutD xs lo hi))
  | .scr ns, lo, hi => some (.lst (cutD (ns.map .int) lo hi))
  | _, _, _ => none
def eSlice (f : Rho → Out (D × Rho)) (fl fh : Rho → Out (Option Int × Rho)) : Rho → Out (D × Rho) := fun ρ =>
  (f ρ).bind fun p => (fl p.2).bind fun l => (fh l.2).bind fun h => (Out.of (sliceD p.1 l.1 h.1)).bind fun c => .ok (c, h.2)
/-! ### built-ins -/
def CallD (X : Cx) (f : Value) (h : List D → Option D) : Prop :=
  ∃ r, CallR X f r ∧ ∀ S H vs ds c Q, Same S H → AtL X.K S vs ds → h ds = some c → (∀ v S' H', Ext (fun _ => False) S H S' H' → At X.K S' v c → Q v H') → r vs H Q
theorem CallD.or {fv : Value} {h1 h2 : List D → Option D} (a : CallD X fv h1) (b : CallD X fv h2) : CallD X fv (fun ds => match h1 ds with | some c => some c | none => h2 ds) := by
  obtain ⟨r1, o1, k1⟩ := a
  obtain ⟨r2, o2, k2⟩ := b
  refine ⟨fun vs H Q => r1 vs H Q ∨ r2 vs H Q, fun pins s σ H xs us Q I r q => q.elim (o1 pins s σ H xs us Q I r) (o2 pins s σ H xs us Q I r), fun S H vs ds c Q sub ha e k => ?_⟩
  dsimp only at e
  cases e1 : h1 ds with
  | some c1 => rw [e1] at e; cases e; exact .inl (k1 S H vs ds _ Q sub ha e1 k)
  | none => rw [e1] at e; exact .inr (k2 S H vs ds c Q sub ha e k)
theorem ve_callB {x : Str} {id : String} {h : List D → Option D} (hc : CallD X (.builtin id) h) (ha : VA X W os (e :: es) g os1) (hm : X.mg x = none) (hv : bootBuiltins x = some (.builtin id)) (hg : Gl X x := by rfl) (hn : x ≠ "__name__" := by decide) (hdb : (x == ("__debug__" : Str)) = false := by decide)
    (he : starEach (e :: es) X.env = (false, eval e X.env) :: starEach es X.env := by rfl) (hpl : (backTo pos (starEach es X.env)).any (·.1) = false := by rfl) : VE X W os (.Call (.Name x p) (e :: es) [] pos) (eArg h g) os1 false := by
  obtain ⟨ta, pa, ka⟩ := ha
  obtain ⟨r, pc, kc⟩ := hc
  refine ⟨_, pe_callB pc hg hm hv pa hn hdb he hpl, fun S σ H ρ Q rel P => ?_⟩
  refine ka S σ H ρ _ rel (Post.seq P (fun z => z) (fun c fs p => p) fun ds ρ1 vs S1 H1 st1 rel1 q1 P1 => ?_)
  obtain ⟨c, hcc, k⟩ := post_of (P1.step RV.ok st1) rel1
  exact kc S1 H1 vs ds c _ rel1.sub q1.1 hcc k
theorem ve_callTy {x : Str} {T : String} {h : List D → Option D} (hc : CallD X (.type T) h) (ha : VA X W os (e :: es) g os1) (hm : X.mg x = none) (hv : bootBuiltins x = some (.type T)) (hg : Gl X x := by rfl) (hn : x ≠ "__name__" := by decide) (hdb : (x == ("__debug__" : Str)) = false := by decide)
    (he : starEach (e :: es) X.env = (false, eval e X.env) :: starEach es X.env := by rfl) (hpl : (backTo pos (starEach es X.env)).any (·.1) = false := by rfl) : VE X W os (.Call (.Name x p) (e :: es) [] pos) (eArg h g) os1 false := by
  obtain ⟨ta, pa, ka⟩ := ha
  obtain ⟨r, pc, kc⟩ := hc
  refine ⟨_, pe_callTy pc hg hm hv pa hn hdb he hpl, fun S σ H ρ Q rel P => ?_⟩
  refine ka S σ H ρ _ rel (Post.seq P (fun z => z) (fun c fs p => p) fun ds ρ1 vs S1 H1 st1 rel1 q1 P1 => ?_)
  obtain ⟨c, hcc, k⟩ := post_of (P1.step RV.ok st1) rel1
  exact kc S1 H1 vs ds c _ rel1.sub q1.1 hcc k
/-- a built-in class as a value -/
theorem ve_ty {x : Str} {T : Tc} (hm : X.mg x = none) (hv : bootBuiltins x = some (.type T.nm)) (hg : Gl X x := by rfl) (hn : x ≠ "__name__" := by decide) (hdb : (x == ("__debug__" : Str)) = false := by decide) : VE X W os (.Name x p) (eCon (.ty T)) os false :=
  ⟨_, pe_bltn (v := .ty T.nm) hg hm hv rfl hn hdb, fun S σ H ρ Q rel P => P.fin (os' := os) rel (.ty T rfl)⟩

def lenD : List D → Option D
  | [.lst ds] => some (.int ds.length)
  | [.tup ds] => some (.int ds.length)
  | [.scr ns] => some (.int ns.length)
  | [.str x] => if x.length ≤ sizeLine then some (.int x.length) else none
  | _ => none
theorem c_len : CallD X (.builtin "len") lenD := ⟨_, call_len, fun S H vs ds c Q sub ha e k => by
  match ds, vs, ha, e with
  | [d], [v], .cons h .nil, e =>
    cases h with
    | @lst a ws es h z r =>
      cases e
      exact ⟨_, _, rfl, .inl ⟨ws, .of (sub _ _ h), rfl⟩, k _ S H (Ext.refl sub) (by rw [r.length]; exact .int _)⟩
    | @tup a ws es h z r =>
      cases e
      exact ⟨_, _, rfl, .inr ⟨ws, sqT_mono sub h, rfl⟩, k _ S H (Ext.refl sub) (by rw [r.length]; exact .int _)⟩
    | @scr a ns h z =>
      cases e
      exact ⟨_, _, rfl, .inl ⟨_, sub.seq h, rfl⟩, k _ S H (Ext.refl sub) (by rw [List.length_map]; exact .int _)⟩
    | str x =>
      have e : (if x.length ≤ sizeLine then some (D.int x.length) else none) = some c := e
      split at e
      · rename_i hz
        cases e
        exact ⟨_, x.length, rfl, ⟨hz, rfl⟩, k _ S H (Ext.refl sub) (.int _)⟩
      · cases e
    | _ => cases e
  | [], _, _, e => cases e
  | _ :: _ :: _, _, _, e => exact absurd e (by simp [lenD])⟩
/-- a datum's class; NoneType is none -/
def tyOf : D → Option Tc
  | .non => none
  | .bl _ => some .bool
  | .int _ => some .int
  | .str _ => some .str
  | .tup _ => some .tuple
  | .lst _ => some .list
  | .scr _ => some .list
  | .dct _ => some .dict
  | .ty _ => none
  | .ins _ _ => none
  | .exc _ _ => none
/-- what isinstance looks at -/
def isiOk : D → Bool
  | .ty _ => false
  | .dct _ => false
  | .ins _ _ => false
  | .exc _ _ => false
  | _ => true
def Tc.eq : Tc → Tc → Bool
  | .int, .int => true
  | .bool, .bool => true
  | .tuple, .tuple => true
  | .list, .list => true
  | .str, .str => true
  | .dict, .dict => true
  | .bool, .int => true
  | _, _ => false
def isTy : Option Tc → Tc → Bool
  | none, _ => false
  | some a, b => Tc.eq a b
def isiD : List D → Option D
  | [d, .ty n] => if isiOk d = true then some (.bl (isTy (tyOf d) n)) else none
  | _ => none
def nmO : Option Tc → String
  | none => "NoneType"
  | some t => t.nm
theorem kit_at (a : Option Tc) (b : Tc) : kitB (nmO a) b.nm = some (isTy a b) := by
  cases a with
  | none => cases b <;> decide +kernel
  | some a => cases a <;> cases b <;> decide +kernel
theorem tyx_of {K : PySem.W.Frag} {S H : Hp} {v : V} {d : D} (sub : Same S H) (h : At K S v d) (hd : isiOk d = true) : TyX K H v (.type (nmO (tyOf d))) := by
  cases h with
  | non => exact .base .non
  | bl b => exact .base (.bl b)
  | int i => exact .base (.int i)
  | str x => exact .base (.str x)
  | tup h z r =>
    rcases h with (h | ⟨o, h⟩) | ⟨o, its, n, hk, hc, _⟩
    · exact .base (.tup (sub _ _ h))
    · exact .fTuple (sub _ _ h)
    · exact .kTuple hk hc
  | lst h z r => exact .base (.lst (sub _ _ h))
  | dct h k z r => cases hd
  | ins _ _ _ _ _ => cases hd
  | exc0 _ _ => cases hd
  | exc1 _ _ _ _ => cases hd
  | scr h z =>
    rcases h with (h | ⟨o, h⟩) | ⟨o, its, n, hk, hc, _⟩
    · exact .base (.lst (sub _ _ h))
    · exact .base (.frz (sub _ _ h))
    · exact .kList hk hc
  | ty n _ => cases hd
theorem isiD_some {ds : List D} {c : D} (h : isiD ds = some c) : ∃ d n, ds = [d, .ty n] ∧ isiOk d = true ∧ c = .bl (isTy (tyOf d) n) := by
  unfold isiD at h
  split at h
  · rename_i d n
    split at h
    · rename_i hd
      cases h
      exact ⟨d, n, rfl, hd, rfl⟩
    · cases h
  · cases h
theorem c_isi : CallD X (.builtin "isinstance") isiD := ⟨_, call_isi, fun S H vs ds c Q sub ha e k => by
  obtain ⟨d, n, rfl, hd, rfl⟩ := isiD_some e
  match vs, ha with
  | [v, _], .cons h (.cons (.ty _ hn) .nil) =>
    subst hn
    exact ⟨v, .ty n.nm, _, _, isTy (tyOf d) n, rfl, .ty n.nm, tyx_of sub h hd, kit_ty (kit_at _ _), k _ S H (Ext.refl sub) (.bl _)⟩⟩
def absD : List D → Option D
  | [.int i] => some (.int (if i < 0 then -i else i))
  | _ => none
theorem c_abs : CallD X (.builtin "abs") absD := ⟨_, call_abs, fun S H vs ds c Q sub ha e k => by
  match ds, vs, ha, e with
  | [.int i], [_], .cons (.int _) .nil, e => cases e; exact ⟨i, rfl, k _ S H (Ext.refl sub) (.int _)⟩
  | [], _, _, e => cases e
  | _ :: _ :: _, _, _, e => exact absurd e (by simp [absD])
  | [.non], _, _, e => cases e
  | [.bl _], _, _, e => cases e
  | [.str _], _, _, e => cases e
  | [.tup _], _, _, e => cases e
  | [.lst _], _, _, e => cases e
  | [.dct _], _, _, e => cases e
  | [.scr _], _, _, e => cases e
  | [.ty _], _, _, e => cases e
  | [.ins _ _], _, _, e => cases e
  | [.exc _ _], _, _, e => cases e⟩
/-- a list of whole numbers -/
def intsOf : List D → Option (List Int)
  | [] => some []
  | .int i :: ds => (intsOf ds).map (i :: ·)
  | _ => none
/-- tuple(..) -/
def tupleD : List D → Option D
  | [.lst ds] => some (.tup ds)
  | [.tup ds] => some (.tup ds)
  | _ => none
theorem c_tuple : CallD X (.type "tuple") tupleD := ⟨_, call_tuple_of, fun S H vs ds c Q sub ha e k => by
  unfold tupleD at e
  split at e
  · match vs, ha with
    | [_], .cons (.lst (a := a) (vs := ws) hs z r) .nil =>
      cases e
      refine ⟨a, ws, rfl, .inl ⟨.of (sub _ _ hs), fun l nl => ?_⟩⟩
      have xx := Ext.new (O := fun _ => False) (o := .tup ws) sub nl
      exact k _ _ _ xx (.tup (.inl (.inl upd_same)) z (r.mono xx.s))
  · match vs, ha with
    | [_], .cons (.tup (a := a) (vs := ws) hs z r) .nil =>
      cases e
      exact ⟨a, ws, rfl, .inr ⟨sqT_mono sub hs, k _ S H (Ext.refl sub) (.tup hs z r)⟩⟩
  · cases e⟩
end
end SW

set_option maxRecDepth 100000
/-! SW9: list(..), stores into an owned list, methods that turn an owned list. -/
namespace SW
open PySem PySem.Spec PyProof.Rows L2
section
variable {X : Cx} {W : WX} {L : Lc} {os os1 os2 os3 osN : Os} {e e1 e2 : Expr} {f f1 f2 : Rho → Out (D × Rho)} {pos p apos : Pos} {es : List Expr} {g : Rho → Out (List D × Rho)}
def listD : List D → Option D
  | [.lst ds] => some (.lst ds)
  | [.tup ds] => some (.lst ds)
  | [.scr ns] => some (.lst (ns.map .int))
  | _ => none
/-- list(e): a new list -/
theorem ve_list {x : Str} (ha : VA X W os [e] g os1) (hx : x = "list") (hm : X.mg x = none) (hg : Gl X x := by rfl) (hle : Le os1 os := by rfl)
    (he : starEach [e] X.env = (false, eval e X.env) :: starEach [] X.env := by rfl) (hpl : (backTo pos (starEach [] X.env)).any (·.1) = false := by rfl) : VE X W os (.Call (.Name x p) [e] [] pos) (eArg listD g) os1 true := by
  obtain ⟨ta, pa, ka⟩ := ha
  subst hx
  refine ⟨_, pe_callTy call_list_of hg hm (by decide +kernel) pa (by decide) (by decide) he hpl, fun S σ H ρ Q rel P => ?_⟩
  refine ka S σ H ρ _ rel (Post.seq P (fun z => z) (fun c fs p => p) fun ds ρ1 vs S1 H1 st1 rel1 q1 P1 => ?_)
  have P1 := P1.step RV.ok st1
  dsimp only at P1
  have fin : ∀ {xs : List V} {ys : List D} (l : Addr), Post X W S1 H1 os1 σ os1 (RV X.K true) Q (.ok (.lst ys, ρ1)) → AtL X.K S1 xs ys → ys.length ≤ sizeLine → H1 l = none → Q (.ref l) (upd H1 l (.lst xs)) := fun {xs ys} l P r z nl => by
    have xx := Ext.newO (O := fun _ => False) (o := .lst xs) rel1.sub nl
    exact P (.ref l) S1 (upd H1 l (.lst xs)) (Stp.of_ext xx) (rel1.ext0 xx) ⟨.mkL (rel1.sub.free nl) upd_same (z) (r), fun a e => by cases e; exact nl⟩
  obtain ⟨q1, _⟩ := q1
  cases hds : listD ds with
  | none => rw [hds] at P1; exact P1.elim
  | some c =>
    rw [hds] at P1
    unfold listD at hds
    split at hds
    · cases hds
      match vs, q1 with
      | [_], .cons (.lst (a := a) (vs := ws) hs z r) .nil => exact ⟨a, ws, rfl, .inl (.of (rel1.sub _ _ hs)), fun l nl => fin l P1 r z nl⟩
    · cases hds
      match vs, q1 with
      | [_], .cons (.tup (a := a) (vs := ws) hs z r) .nil => exact ⟨a, ws, rfl, .inr (sqT_mono rel1.sub hs), fun l nl => fin l P1 r z nl⟩
    · cases hds
      match vs, q1 with
      | [_], .cons (.scr (a := a) (ns := ns) hs z) .nil => exact ⟨a, _, rfl, .inl (rel1.sub.seq hs), fun l nl => fin l P1 (AtL.ints ns) (by rw [List.length_map]; exact z) nl⟩
    · cases hds
/-- x[lo:hi] of a list: a new list that is owned -/
def sliceL : D → Option Int → Option Int → Option D
  | .lst xs, lo, hi => some (.lst (cutD xs lo hi))
  | .scr ns, lo, hi => some (.lst (cutD (ns.map .int) lo hi))
  | _, _, _ => none
def eSliceL (f : Rho → Out (D × Rho)) (fl fh : Rho → Out (Option Int × Rho)) : Rho → Out (D × Rho) := fun ρ =>
  (f ρ).bind fun p => (fl p.2).bind fun l => (fh l.2).bind fun h => (Out.of (sliceL p.1 l.1 h.1)).bind fun c => .ok (c, h.2)
/-! ### an owned list is turned -/
def sSetIx (i : Nat) (f fi : Rho → Out (D × Rho)) : Rho → Out Fl := fun ρ => (f ρ).bind fun p => match p.2.getD i none with
  | none => .stuck
  | some _ => (fi p.2).bind fun q => match q.2.getD i none, q.1 with
    | some (.lst ds), .int k => (match ixN ds.length k with
      | some j => .ok (.nx (q.2.set i (some (.lst (ds.set j p.1)))))
      | none => .stuck)
    | _, _ => .stuck
theorem turnL {S H : Hp} {σ : Sg} {ρ : Rho} {i : Nat} {a : Addr} {vs : List V} {ds : List D} (rel : Rel X.K S H os σ ρ) (ho : os.getD i false = true) (ev : σ[i]? = some (some (.ref a))) (na : S a = none) (z : ds.length ≤ sizeLine) (r : AtL X.K S vs ds) :
    Rel X.K S (upd H a (.lst vs)) os σ (ρ.set i (some (.lst ds))) ∧ Stp os σ S H os σ S (upd H a (.lst vs)) :=
  ⟨rel.turn ho ev (.mkL na upd_same z r), Stp.turn rel ho ev⟩
theorem vs_setIx (i : Nat) {x : Str} {px ps : Pos} {ie : Expr} {fi : Rho → Out (D × Rho)} (hv : VE X W os e f os1 false) (hi : VE X W os1 ie fi os2 false) (ho1 : os1.getD i false = true := by rfl) (ho2 : os2.getD i false = true := by rfl) (hN : X.N[i]? = some x := by rfl)
    (hvis : Vis X.env.scope x := by first | exact Or.inl rfl | exact Or.inr (Or.inl rfl) | exact Or.inr (Or.inr rfl)) (hd : (x == ("__debug__" : Str)) = false := by decide) (hcd : (x == ("__classdict__" : Str)) = false := by decide)
    (ha : ∀ v, assign (.Subscript (.Name x px) ie ps) X.env v = (do
      let ov ← holding [v] (eval (.Name x px) X.env)
      let iv ← holding [v, ov] (eval ie X.env)
      standAt ps
      holding [v, ov, iv] (setItem ov iv v)
      release [v, ov, iv] []) := by intro _; rfl) (hs : swapsWithSole [.Subscript (.Name x px) ie ps] e pos.line X.env = pure false := by rfl) (hw : swappedStores [.Subscript (.Name x px) ie ps] e X.env = pure none := by rfl)
    (h1 : (assignEach [.Subscript (.Name x px) ie ps] X.env).map (·.2) = [assign (.Subscript (.Name x px) ie ps) X.env] := by rfl) :
    VS X W L os (.Assign [.Subscript (.Name x px) ie ps] e pos) (sSetIx i f fi) os2 := by
  obtain ⟨t, pt, kt⟩ := hv
  obtain ⟨ti, pi, ki⟩ := hi
  refine ⟨_, ps_asg pt (pg_sub (pe_var hN hvis hd hcd) pi set_list ha) hs hw h1, fun S σ H ρ Ds rel P => ?_⟩
  refine kt S σ H ρ _ rel (PostS.seqE P fun d ρ1 v S1 H1 s1 r1 q1 P1 => ?_)
  have q1 : At X.K S1 v d := q1
  dsimp only at P1
  cases hx : ρ1.getD i none with
  | none => rw [hx] at P1; exact P1.elim
  | some d1 =>
    rw [hx] at P1
    obtain ⟨u, eu, _⟩ := r1.own (getD_some hx) ho1
    refine ⟨u, eu, ?_⟩
    refine ki S1 σ H1 ρ1 _ r1 (PostS.seqE P1 fun d2 ρ2 v2 S2 H2 s2 r2 q2 P2 => ?_)
    have q2 : At X.K S2 v2 d2 := q2
    dsimp only at P2
    cases hx2 : ρ2.getD i none with
    | none => rw [hx2] at P2; exact P2.elim
    | some d3 =>
      rw [hx2] at P2
      obtain ⟨u', eu', hown⟩ := r2.own (getD_some hx2) ho2
      rw [eu] at eu'
      cases eu'
      obtain ⟨a, ea, na, q⟩ := hown
      subst ea
      obtain ⟨o, eh, bd⟩ := q
      cases bd with
      | @lst vs ds z rl =>
        cases q2 with
        | int k =>
          have P2 : PostS X W L S2 H2 os2 σ os2 Ds (match ixN ds.length k with
            | some j => .ok (.nx (ρ2.set i (some (.lst (ds.set j d)))))
            | none => .stuck) := P2
          cases hj : ixN ds.length k with
          | none => rw [hj] at P2; exact P2.elim
          | some j =>
            rw [hj] at P2
            obtain ⟨r3, st3⟩ := turnL r2 ho2 eu na (by rw [List.length_set]; exact z) (rl.set j (q1.mono s2.ext.s))
            exact ⟨a, vs, k, j, rfl, rfl, eh, by rw [rl.length]; exact hj, P2 σ S2 _ st3 FixOn.refl r3⟩
        | _ => exact P2.elim
      | _ => cases q2 <;> exact P2.elim

/-! ### methods -/
/-- a method that turns its list: u tells the value and the new list -/
def OwnM (X : Cx) (id : String) (u : List D → List D → Option (D × List D)) : Prop :=
  ∃ r, MtR X id r ∧ ∀ S H a vs ds ws es c ds' Q, Same S H → H a = some (.lst vs) → S a = none → AtL X.K S vs ds → AtL X.K S ws es → ds.length ≤ sizeLine → u ds es = some (c, ds') →
    (∀ v vs', AtL X.K S vs' ds' → ds'.length ≤ sizeLine → At X.K S v c → Q v (upd H a (.lst vs'))) → r (.ref a) ws H Q
def eOwnM (u : List D → List D → Option (D × List D)) (i : Nat) (g : Rho → Out (List D × Rho)) : Rho → Out (D × Rho) := fun ρ => match ρ.getD i none with
  | some (.lst _) => (g ρ).bind fun p => (match p.2.getD i none with
    | some (.lst ds) => (Out.of (u ds p.1)).bind fun c => .ok (c.1, p.2.set i (some (.lst c.2)))
    | _ => .stuck)
  | _ => .stuck
theorem ve_ownM (i : Nat) {x name : Str} {id : String} {px cpos : Pos} {u : List D → List D → Option (D × List D)} (hm : OwnM X id u) (pa : PlainAttrs "list") (slot : Slot "list" name id) (hty : typeOf (.builtin id) = pure (.type "method_descriptor")) (hg : VA X W os (e :: es) g os1)
    (ho : os.getD i false = true := by rfl) (ho1 : os1.getD i false = true := by rfl) (hN : X.N[i]? = some x := by rfl) (hvis : Vis X.env.scope x := by first | exact Or.inl rfl | exact Or.inr (Or.inl rfl) | exact Or.inr (Or.inr rfl)) (hd : (x == ("__debug__" : Str)) = false := by decide) (hcd : (x == ("__classdict__" : Str)) = false := by decide)
    (hbase : attributeBase (.Name x px) name X.env (eval (.Name x px) X.env) = eval (.Name x px) X.env := by rfl)
    (hfew : ((backTo cpos (starEach (e :: es) X.env)).all (fun x => !x.1) && (backToKw cpos (keywordEach [] X.env)).all (fun x => x.1.isSome)
      && decide ((e :: es).length + ([] : List Keyword).length + (if ([] : List Keyword).isEmpty then 0 else 1) < 30)) = true := by rfl)
    (hline : (apos.endLine == cpos.line) = true := by rfl) (hs : starEach (e :: es) X.env = (false, eval e X.env) :: starEach es X.env := by rfl) (hplain : (backTo cpos (starEach es X.env)).any (·.1) = false := by rfl) :
    VE X W os (.Call (.Attribute (.Name x px) name apos) (e :: es) [] cpos) (eOwnM u i g) os1 false := by
  obtain ⟨tg, pg, kg⟩ := hg
  obtain ⟨r, pm, km⟩ := hm
  refine ⟨_, pe_bm pa slot hty pm (pe_var hN hvis hd hcd) pg hbase hfew hline hs hplain, fun S σ H ρ Q rel P => ?_⟩
  unfold eOwnM at P
  cases hx : ρ.getD i none with
  | none => rw [hx] at P; exact P.elim
  | some d0 =>
    rw [hx] at P
    obtain ⟨w, ew, hown⟩ := rel.own (getD_some hx) ho
    refine ⟨w, ew, ?_, ?_⟩
    · obtain ⟨a, ea, na, q⟩ := hown
      subst ea
      obtain ⟨o, eh, bd⟩ := q
      cases bd with
      | @lst vs ds z rl => exact .inl ⟨rfl, vs, .of eh⟩
      | _ => exact P.elim
    · have P : Post X W S H os σ os1 (RV X.K false) Q ((g ρ).bind fun p => (match p.2.getD i none with
        | some (.lst ds) => (Out.of (u ds p.1)).bind fun c => .ok (c.1, p.2.set i (some (.lst c.2)))
        | _ => .stuck)) := by
        cases d0 <;> first | exact P | exact P.elim
      refine kg S σ H ρ _ rel (Post.seq P (fun z => z) (fun c fs p => p) fun es' ρ1 ws S1 H1 st1 rel1 q1 P1 => ?_)
      have P1 := P1.step RV.ok st1
      dsimp only at P1
      cases hx1 : ρ1.getD i none with
      | none => rw [hx1] at P1; exact P1.elim
      | some d1 =>
        rw [hx1] at P1
        obtain ⟨w', ew', hown'⟩ := rel1.own (getD_some hx1) ho1
        rw [ew] at ew'
        cases ew'
        obtain ⟨a, ea, na, q⟩ := hown'
        subst ea
        obtain ⟨o, eh, bd⟩ := q
        cases bd with
        | @lst vs ds z rl =>
          have P1 : Post X W S1 H1 os1 σ os1 (RV X.K false) Q ((Out.of (u ds es')).bind fun c => .ok (c.1, ρ1.set i (some (.lst c.2)))) := P1
          cases hu : u ds es' with
          | none => rw [hu] at P1; exact P1.elim
          | some c =>
            rw [hu] at P1
            refine km S1 H1 a vs ds ws es' c.1 c.2 Q rel1.sub eh na rl q1.1 z hu fun v vs' h1 h2 h3 => ?_
            obtain ⟨r3, st3⟩ := turnL rel1 ho1 ew na h2 h1
            exact P1 v S1 _ st3 r3 h3
        | _ => exact P1.elim
def uAppend : List D → List D → Option (D × List D)
  | ds, [d] => if ds.length < sizeLine then some (.non, ds ++ [d]) else none
  | _, _ => none
theorem own_append : OwnM X "list.append" uAppend := ⟨_, mt_append, fun S H a vs ds ws es c ds' Q sub hH na r rw_ z e k => by
  unfold uAppend at e
  split at e
  · rename_i d
    split at e
    · rename_i hz
      cases e
      match ws, rw_ with
      | [w], .cons hw .nil => exact ⟨a, vs, w, rfl, rfl, hH, by rw [r.length]; exact hz, k _ _ (r.append (.cons hw .nil)) (by rw [List.length_append]; exact hz) .non⟩
    · cases e
  · cases e⟩
end
end SW

set_option maxRecDepth 100000
/-! SW10: break, continue, x op= e, freezing ahead, bodies that always return, a module's constants, the end. -/
namespace SW
open PySem PySem.Spec PyProof.Rows L2
section
variable {X : Cx} {W : WX} {L : Lc} {os os1 os2 os3 osN : Os} {e e1 e2 : Expr} {f f1 f2 : Rho → Out (D × Rho)} {pos p apos : Pos} {es : List Expr} {g g2 : Rho → Out Fl} {st : Stmt} {sts : List Stmt}
/-- x += e -/
def sAug (i : Nat) (h : D → D → Option D) (f : Rho → Out (D × Rho)) : Rho → Out Fl := fun ρ => match ρ.getD i none with
  | none => .stuck
  | some d => (f ρ).bind fun q => (Out.of (h d q.1)).bind fun c => .ok (.nx (q.2.set i (some c)))
/-- a module's constant -/
def Konst (K : PySem.W.Frag) (mg : Str → Option Value) (x : Str) (d : D) : Prop := ∃ v u, mg x = some u ∧ RelV v u ∧ ∀ S, At K S v d
theorem ve_konst {x : Str} {d : D} (h : Konst X.K X.mg x d) (hg : Gl X x := by rfl) (hd : (x == ("__debug__" : Str)) = false := by decide) : VE X W os (.Name x p) (eCon d) os false := by
  obtain ⟨v, u, hm, hr, hat⟩ := h
  exact ve_glob hm hr hat hg hd
theorem konst_int {K : PySem.W.Frag} {mg : Str → Option Value} {x : Str} {i : Int} {t : Tok} (h : mg x = some (.int i t)) : Konst K mg x (.int i) := ⟨.int i, _, h, ⟨t, rfl⟩, fun _ => .int i⟩
theorem konst_str {K : PySem.W.Frag} {mg : Str → Option Value} {x : Str} {i : Str} {t : Tok} (h : mg x = some (.str i t)) : Konst K mg x (.str i) := ⟨.str i, _, h, ⟨t, rfl⟩, fun _ => .str i⟩
/-! ### a body that never runs off its end -/
def NoNx (g : Rho → Out Fl) : Prop := ∀ ρ ρ', g ρ ≠ .ok (.nx ρ')
theorem nn_seq (h : NoNx g2) : NoNx (sSeq g g2) := fun ρ ρ' e => by
  unfold sSeq at e
  cases hg : g ρ with
  | ok z =>
    rw [hg] at e
    cases z with
    | nx ρ1 => exact h ρ1 ρ' e
    | _ => cases e
  | exc c fs => rw [hg] at e; cases e
  | stuck => rw [hg] at e; cases e
theorem nn_ret : NoNx (sRet f) := fun ρ ρ' e => by
  unfold sRet at e
  cases hg : f ρ <;> rw [hg] at e <;> cases e
/-- f(e, ..): the list or dict that f turns is a new one that nobody else holds -/
def eCallT (m : List D → Out (D × D)) (f : Rho → Out (D × Rho)) (g : Rho → Out (List D × Rho)) : Rho → Out (D × Rho) := fun ρ => (f ρ).bind fun p => (g p.2).bind fun q => (m (p.1 :: q.1)).bind fun c => .ok (c.1, q.2)
end
/-- the end: a law that is one for-all of its mirror -/
def specL (K : PySem.W.Frag) (m : List D → Out (D × D)) : Sp := fun vs H Q _ => ∃ (a : Addr) (ns : List Int), vs = [.ref a] ∧ SqL K H a (ns.map V.int) ∧ ns.length ≤ 63 ∧ (∃ o, m [.scr ns] = .ok (.bl true, o)) ∧ ∀ H', Q (.bl true) H'
theorem specL_imp {K : PySem.W.Frag} {mg : Str → Option Value} {m : List D → Out (D × D)} : ∀ vs H Q E, specL K m vs H Q E → spec K mg 1 none false m vs H Q E := by
  rintro vs H Q E ⟨a, ns, rfl, hs, hl, ⟨o, e⟩, hq⟩
  refine ⟨rfl, H, [.scr ns], rel_args (.cons (.scr hs (Nat.le_trans hl (by decide))) .nil) (Same.refl _), ?_⟩
  rw [e]
  intro v S' H' x q _
  have q : At K S' v (.bl true) := q
  cases q
  exact hq H'
theorem law_specL {K : PySem.W.Frag} {m : List D → Out (D × D)} (hm : ∀ ns : List Int, ns.length ≤ 63 → ∃ o, m [.scr ns] = .ok (.bl true, o)) {H : Hp} {a : Addr} {ns : List Int} (hl : ns.length ≤ 63) (hs : SqL K H a (ns.map V.int)) :
    specL K m [.ref a] H (fun v _ => v = .bl true) fun _ _ _ => False := ⟨a, ns, rfl, hs, hl, hm ns hl, fun _ => rfl⟩
end SW
namespace SW
open PySem PySem.Spec PyProof.Rows L2
theorem bt_len : bootBuiltins "len" = some (.builtin "len") := by decide +kernel
theorem bt_isinstance : bootBuiltins "isinstance" = some (.builtin "isinstance") := by decide +kernel
theorem bt_abs : bootBuiltins "abs" = some (.builtin "abs") := by decide +kernel
theorem bt_int : bootBuiltins "int" = some (.type "int") := by decide +kernel
theorem bt_bool : bootBuiltins "bool" = some (.type "bool") := by decide +kernel
theorem bt_tuple : bootBuiltins "tuple" = some (.type "tuple") := by decide +kernel
theorem bt_list : bootBuiltins "list" = some (.type "list") := by decide +kernel
theorem bt_str : bootBuiltins "str" = some (.type "str") := by decide +kernel
theorem hu65 {A : Around} {k : Nat} (hr : Room k A) : A.units + 65 < cLine := by have := hr.un; omega
/-- comparisons: numbers first, then any data that are alike -/
def ltA : D → D → Option D := fun a b => match ltI a b with | some c => some c | none => ltD a b
def leA : D → D → Option D := fun a b => match leI a b with | some c => some c | none => leD a b
def gtA : D → D → Option D := fun a b => match gtI a b with | some c => some c | none => gtD a b
def geA : D → D → Option D := fun a b => match geI a b with | some c => some c | none => geD a b
theorem o_ltA {X : Cx} (hu : X.A.units + 64 < cLine) : Op2 X (compareOp .Lt) ltA := o_ltI.or (o_lt hu)
theorem o_gtA {X : Cx} (hu : X.A.units + 64 < cLine) : Op2 X (compareOp .Gt) gtA := o_gtI.or (o_gt hu)
theorem o_geA {X : Cx} (hu : X.A.units + 64 < cLine) : Op2 X (compareOp .GtE) geA := o_geI.or (o_ge hu)
/-- the def's own start: only the turned parameter is owned -/
theorem os_ok {os : Os} {pm : Option Nat} (h : (List.range (max os.length (osP pm).length)).all (fun i => os.getD i false == (osP pm).getD i false) = true) : ∀ i, os.getD i false = (osP pm).getD i false := fun i => by
  by_cases hi : i < max os.length (osP pm).length
  · exact eq_of_beq (List.all_eq_true.mp h i (List.mem_range.mpr hi))
  · rw [List.getD, List.getD, List.getElem?_eq_none (by omega), List.getElem?_eq_none (by omega)]
theorem cx_false {P : Program} {w : World} {H : Hp} {s s' : Shared} {e : Value} (h : L2.CX P w [] H s (fun _ _ _ => False) e s') : False := by
  obtain ⟨_, _, _, _, _, _, _, _, _, _, _, _, z⟩ := h
  exact z
def aHoleQ (i : Nat) (g : Rho → Out (List D × Rho)) : Rho → Out (List D × Rho) := fun ρ => match ρ.getD i none with | some _ => aHole g ρ | none => .stuck
/-- fuels -/
def fuelInt (i : Nat) : Rho → Nat := fun ρ => match ρ.getD i none with
  | some (.int n) => n.natAbs + 1
  | _ => 0
end SW

set_option maxRecDepth 100000
/-! SW11: how mirrors are reckoned: equations for simp. -/
namespace SW
open PySem PySem.Spec PyProof.Rows L2
section
variable {α β : Type} {ρ ρ1 ρ2 : Rho} {i j : Int} {d e : D} {k : α → Out β} {a : α}
theorem bind_ok : (Out.ok a).bind k = k a := rfl
theorem bind_exc {c fs} : (Out.exc c fs : Out α).bind k = .exc c fs := rfl
theorem bind_stuck : (Out.stuck : Out α).bind k = .stuck := rfl
theorem of_some : Out.of (some a) = .ok a := rfl
theorem eCon_ok : eCon d ρ = .ok (d, ρ) := rfl
theorem aNil_ok : aNil ρ = .ok ([], ρ) := rfl
theorem oNone_ok : oNone ρ = .ok (none, ρ) := rfl
theorem tYes_ok : tYesF ρ = .ok (true, ρ) := rfl
theorem sSkip_ok : sSkip ρ = .ok (.nx ρ) := rfl
/-! numbers -/
theorem addD_int : addD (.int i) (.int j) = some (.int (i + j)) := rfl
theorem subD_int : subD (.int i) (.int j) = some (.int (i - j)) := rfl
theorem negD_int : negD (.int i) = some (.int (-i)) := rfl
theorem repD_int (h : bits2 i j = true) : repD (.int i) (.int j) = some (.int (i * j)) := by show (if bits2 i j = true then some (D.int (i * j)) else none) = _; rw [if_pos h]
theorem modD_int (h : 0 < j) : modD (.int i) (.int j) = some (.int (i % j)) := by
  show (if (j != 0) = true then some (D.int (i.fmod j)) else none) = _
  rw [if_pos (by simp; omega), Int.fmod_eq_emod_of_nonneg _ (by omega)]
theorem fdivD_int (h : 0 < j) : fdivD (.int i) (.int j) = some (.int (i / j)) := by
  have e : fdivOk i j = true := by
    unfold fdivOk
    simp
    omega
  show (if fdivOk i j = true then some (D.int (i.fdiv j)) else none) = _
  rw [if_pos e, Int.fdiv_eq_ediv_of_nonneg _ (by omega)]
theorem ltA_int : ltA (.int i) (.int j) = some (.bl (decide (i < j))) := rfl
theorem leA_int : leA (.int i) (.int j) = some (.bl (decide (i ≤ j))) := rfl
theorem gtA_int : gtA (.int i) (.int j) = some (.bl (decide (j < i))) := rfl
theorem geA_int : geA (.int i) (.int j) = some (.bl (decide (j ≤ i))) := rfl
theorem eqD_int : eqD (.int i) (.int j) = some (.bl (decide (i = j))) := by
  show some (D.bl (i == j)) = _
  rw [Bool.beq_eq_decide_eq]
theorem neD_int : neD (.int i) (.int j) = some (.bl (!decide (i = j))) := by
  show some (D.bl (!(i == j))) = _
  rw [Bool.beq_eq_decide_eq]
theorem powD_int {n : Int} (h : powOk i j = true) (hn : i ^ j.toNat = n) : powD (.int i) (.int j) = some (.int n) := by
  subst hn
  show (if powOk i j = true then some (D.int (i ^ j.toNat)) else none) = _
  rw [if_pos h]
theorem pow_10_18 : powD (.int 10) (.int 18) = some (.int 1000000000000000000) := powD_int (by decide) (by decide)
theorem pow_10_60 : powD (.int 10) (.int 60) = some (.int 1000000000000000000000000000000000000000000000000000000000000) := powD_int (by decide) (by decide)
/-! calls -/
theorem bits2_of {i j : Int} {a b : Nat} (ha : i.natAbs < 2 ^ a) (hb : j.natAbs < 2 ^ b) (h : a + b ≤ 130000000) : bits2 i j = true := by
  have h1 : i.natAbs.log2 < a + 1 := by
    by_cases hz : i.natAbs = 0
    · rw [hz]; simp
    · exact Nat.lt_succ_of_lt ((Nat.log2_lt hz).mpr ha)
  have h2 : j.natAbs.log2 < b + 1 := by
    by_cases hz : j.natAbs = 0
    · rw [hz]; simp
    · exact Nat.lt_succ_of_lt ((Nat.log2_lt hz).mpr hb)
  unfold bits2
  rw [decide_eq_true (show i.natAbs.log2 + j.natAbs.log2 < 134000000 by omega)]
  rfl
theorem bits2_l {i j : Int} (hb : i.natAbs < 2 ^ 63) : bits2 i j = true := by
  unfold bits2
  rw [decide_eq_true hb]
  simp
end
end SW

set_option maxRecDepth 100000
/-! SW12: typed data (Enc), loops and comprehensions by typed functions, slices, words. -/
namespace SW
open PySem PySem.Spec PyProof.Rows L2

/-! ### typed data -/
structure Enc (α : Type) [DecidableEq α] where
  en : α → D
  py : α → PyData
  dp : Nat
  hpy : ∀ a, (en a).py = some (py a)
  heq : ∀ a b, PyData.eqv (py a) (py b) = decide (a = b)
  lay : ∀ a, (py a).canLay0 = true
  hdp : ∀ a, (py a).depth ≤ dp
section
variable {α β : Type} [DecidableEq α] [DecidableEq β]
def eInt : Enc Int where
  en := .int
  py := .int
  dp := 0
  hpy _ := rfl
  heq a b := by show (a == b) = _; rw [Bool.beq_eq_decide_eq]
  lay _ := by simp [PyData.canLay0]
  hdp _ := by simp [PyData.depth]
theorem pyL_map (e : Enc α) : ∀ l : List α, D.pyL (l.map e.en) = some (l.map e.py)
  | [] => rfl
  | a :: l => by
    show (match D.py (e.en a), D.pyL (l.map e.en) with
      | some p, some ps => some (p :: ps)
      | _, _ => none) = _
    rw [e.hpy, pyL_map e l]
    rfl
theorem eqvAll_map (e : Enc α) : ∀ a b : List α, PyData.eqvAll (a.map e.py) (b.map e.py) = decide (a = b)
  | [], [] => rfl
  | [], _ :: _ => rfl
  | _ :: _, [] => rfl
  | x :: a, y :: b => by
    show (PyData.eqv (e.py x) (e.py y) && PyData.eqvAll (a.map e.py) (b.map e.py)) = _
    rw [e.heq, eqvAll_map e a b, Bool.eq_iff_iff]
    simp
theorem layAll_map (e : Enc α) : ∀ a : List α, PyData.canLayAll0 (a.map e.py) = true
  | [] => by simp [PyData.canLayAll0]
  | x :: a => by
    show PyData.canLayAll0 (e.py x :: a.map e.py) = true
    rw [PyData.canLayAll0, e.lay, layAll_map e a]
    rfl
theorem dpAll_map (e : Enc α) : ∀ a : List α, PyData.depthAll (a.map e.py) ≤ e.dp
  | [] => by simp [PyData.depthAll]
  | x :: a => by
    show PyData.depthAll (e.py x :: a.map e.py) ≤ _
    rw [PyData.depthAll]
    exact Nat.max_le.mpr ⟨e.hdp x, dpAll_map e a⟩
def eTupOf (e : Enc α) : Enc (List α) where
  en l := .tup (l.map e.en)
  py l := .tuple (l.map e.py)
  dp := e.dp + 1
  hpy l := by show (D.pyL (l.map e.en)).map PyData.tuple = _; rw [pyL_map]; rfl
  heq a b := eqvAll_map e a b
  lay a := by rw [PyData.canLay0]; exact layAll_map e a
  hdp a := by rw [PyData.depth]; have := dpAll_map e a; omega
def eLstOf (e : Enc α) : Enc (List α) where
  en l := .lst (l.map e.en)
  py l := .list (l.map e.py)
  dp := e.dp + 1
  hpy l := by show (D.pyL (l.map e.en)).map PyData.list = _; rw [pyL_map]; rfl
  heq a b := eqvAll_map e a b
  lay a := by rw [PyData.canLay0]; exact layAll_map e a
  hdp a := by rw [PyData.depth]; have := dpAll_map e a; omega
def ePair (e : Enc α) (f : Enc β) : Enc (α × β) where
  en p := .tup [e.en p.1, f.en p.2]
  py p := .tuple [e.py p.1, f.py p.2]
  dp := max e.dp f.dp + 1
  hpy p := by
    have e2 : D.pyL [f.en p.2] = some [f.py p.2] := pyL_map f [p.2]
    have e3 : D.pyL [e.en p.1, f.en p.2] = some [e.py p.1, f.py p.2] := by
      show (match D.py (e.en p.1), D.pyL [f.en p.2] with
        | some p, some ps => some (p :: ps)
        | _, _ => none) = _
      rw [e.hpy, e2]
    show (D.pyL [e.en p.1, f.en p.2]).map PyData.tuple = _
    rw [e3]
    rfl
  heq a b := by
    show (PyData.eqv (e.py a.1) (e.py b.1) && (PyData.eqv (f.py a.2) (f.py b.2) && true)) = _
    rw [e.heq, f.heq, Bool.eq_iff_iff]
    simp [Prod.ext_iff]
  lay a := by simp [PyData.canLay0, PyData.canLayAll0, e.lay, f.lay]
  hdp a := by
    simp only [PyData.depth, PyData.depthAll]
    have := e.hdp a.1
    have := f.hdp a.2
    omega
theorem shaped_enc (e : Enc α) (h : e.dp ≤ 64) (a : α) : SeqAt.shaped (e.py a) = true := by
  unfold SeqAt.shaped
  rw [e.lay, decide_eq_true (Nat.le_trans (e.hdp a) h)]
  rfl
theorem eqD_enc (e : Enc α) (h : e.dp ≤ 64) (a b : α) : eqD (e.en a) (e.en b) = some (.bl (decide (a = b))) := by
  unfold eqD cmpP
  rw [e.hpy, e.hpy]
  dsimp only
  unfold shOk
  rw [shaped_enc e h, shaped_enc e h, e.heq]
  rfl
theorem neD_enc (e : Enc α) (h : e.dp ≤ 64) (a b : α) : neD (e.en a) (e.en b) = some (.bl (!decide (a = b))) := by
  unfold neD cmpP
  rw [e.hpy, e.hpy]
  dsimp only
  unfold shOk
  rw [shaped_enc e h, shaped_enc e h, e.heq]
  rfl
end
/-! ### words of whole numbers -/
abbrev eWord : Enc (List Int) := eTupOf eInt
def ltN : List Int → List Int → Bool
  | _, [] => false
  | [], _ :: _ => true
  | x :: xs, y :: ys => if x = y then ltN xs ys else decide (x < y)
theorem ltN_toks : ∀ a b : List Int, PyProof.Rows.lexLt PyProof.Rows.itemOrd (PySem.W.keyToksAll (a.map PyData.int)) (PySem.W.keyToksAll (b.map PyData.int)) = ltN a b
  | [], [] => by rfl
  | [], y :: ys => by
    rw [List.map_nil, List.map_cons, PySem.W.toks_all_cons]
    show PyProof.Rows.lexLt PyProof.Rows.itemOrd (PySem.W.keyToksAll []) _ = true
    rw [PySem.W.keyToksAll]
    rw [PyProof.Rows.lex_diff (O := PyProof.Rows.itemOrd) (by intro z; cases z)]
    rfl
  | x :: xs, [] => by
    rw [List.map_nil, List.map_cons, PySem.W.toks_all_cons]
    show PyProof.Rows.lexLt PyProof.Rows.itemOrd _ (PySem.W.keyToksAll []) = false
    rw [PySem.W.keyToksAll]
    rw [PyProof.Rows.lex_diff (O := PyProof.Rows.itemOrd) (by intro z; cases z)]
    rfl
  | x :: xs, y :: ys => by
    rw [List.map_cons, List.map_cons, PySem.W.toks_all_cons, PySem.W.toks_all_cons, PyProof.Rows.lex_self (O := PyProof.Rows.itemOrd)]
    have e1 : ∀ z : Int, PySem.W.keyToks (.int z) = [Sum.inl z] := fun z => by rw [PySem.W.keyToks]
    rw [e1, e1]
    show PyProof.Rows.lexLt PyProof.Rows.itemOrd (Sum.inl x :: PySem.W.keyToksAll (xs.map PyData.int)) (Sum.inl y :: PySem.W.keyToksAll (ys.map PyData.int)) = (if x = y then ltN xs ys else decide (x < y))
    by_cases h : x = y
    · subst h
      rw [PyProof.Rows.lex_self (O := PyProof.Rows.itemOrd), ltN_toks xs ys, if_pos rfl]
    · rw [PyProof.Rows.lex_diff (O := PyProof.Rows.itemOrd) (fun z => h (Sum.inl.inj z)), if_neg h]
      rfl
theorem alike_ints : ∀ a b : List Int, PySem.W.alikeAll (a.map PyData.int) (b.map PyData.int) = true
  | [], _ => by simp [PySem.W.alikeAll]
  | _ :: _, [] => by simp [PySem.W.alikeAll]
  | x :: a, y :: b => by
    rw [List.map_cons, List.map_cons, PySem.W.alikeAll, PySem.W.alike, alike_ints a b]
    rfl
theorem lt_word (a b : List Int) : PySem.W.dataLt (eWord.py a) (eWord.py b) = ltN a b := by
  show PySem.W.dataLt (.tuple (a.map PyData.int)) (.tuple (b.map PyData.int)) = _
  rw [PySem.W.dataLt_tuple]
  exact ltN_toks a b
/-! ### slices -/
/-! ### loops -/
section
variable {ι σ : Type} {b : D → Rho → Option Rho} {g : Rho → Out Fl} {vs : List Nat} {tt : Rho → Out (Bool × Rho)} {fe : Rho → Out (D × Rho)} {f : ι → D}
/-- a comprehension that turns nothing -/
theorem compL_of {ρ : Rho} {c : ι → Bool} {h : ι → D} : ∀ (l : List ι), (∀ i ∈ l, ∃ ρ1, b (f i) (wipeR ρ vs) = some ρ1 ∧ ∃ ρ2, tt ρ1 = .ok (c i, ρ2) ∧ (c i = false → backR vs ρ ρ2 = ρ) ∧ (c i = true → ∃ ρ3, fe ρ2 = .ok (h i, ρ3) ∧ backR vs ρ ρ3 = ρ)) →
    compL vs b tt fe (l.map f) ρ = .ok ((l.filter c).map h, ρ)
  | [], _ => rfl
  | i :: l, st => by
    obtain ⟨ρ1, e1, ρ2, e2, hf, ht⟩ := st i List.mem_cons_self
    have ih := compL_of l fun j hj => st j (List.mem_cons_of_mem _ hj)
    rw [List.map_cons]
    unfold compL
    rw [e1]
    dsimp only
    rw [e2]
    cases hc : c i with
    | false =>
      dsimp only
      rw [hf hc, ih, List.filter_cons_of_neg (by simp [hc])]
    | true =>
      obtain ⟨ρ3, e3, e4⟩ := ht hc
      dsimp only
      rw [e3]
      dsimp only
      rw [e4, ih, List.filter_cons_of_pos hc, List.map_cons]
      rfl
/-- a loop that turns a state -/
theorem forL_fold {St : σ → Rho → Prop} {step : σ → ι → σ} : ∀ (l : List ι) (s : σ) (ρ : Rho), St s ρ → (∀ i ∈ l, ∀ s ρ, St s ρ → ∃ ρ1 ρ2, b (f i) ρ = some ρ1 ∧ g ρ1 = .ok (.nx ρ2) ∧ St (step s i) ρ2) →
    ∃ ρ', forL b g (l.map f) ρ = .ok (.nx ρ') ∧ St (l.foldl step s) ρ'
  | [], s, ρ, h, _ => ⟨ρ, rfl, h⟩
  | i :: l, s, ρ, h, st => by
    obtain ⟨ρ1, ρ2, e1, e2, h2⟩ := st i List.mem_cons_self s ρ h
    obtain ⟨ρ', e3, h3⟩ := forL_fold l (step s i) ρ2 h2 fun j hj => st j (List.mem_cons_of_mem _ hj)
    refine ⟨ρ', ?_, h3⟩
    rw [List.map_cons]
    unfold forL
    rw [e1]
    dsimp only
    rw [e2, bind_ok]
    exact e3
end
theorem rangeD1 {j : Int} (h0 : 0 ≤ j) (h : j ≤ 16777216) : rangeD [.int j] = some ((List.range j.toNat).map fun i => .int ((i : Nat) : Int)) := by
  show (if j.toNat ≤ 16777216 ∧ j.natAbs ≤ 4611686018427387904 then some (rngI 0 j.toNat) else none) = _
  rw [if_pos ⟨by omega, by omega⟩]
  unfold rngI
  congr 1
  exact List.map_congr_left fun i _ => by rw [Int.zero_add]
end SW

set_option maxRecDepth 100000
/-! SW13: comprehensions inside comprehensions. -/
namespace SW
open PySem PySem.Spec PyProof.Rows L2
end SW

set_option maxRecDepth 100000
/-! SW14: chained comparisons. -/
namespace SW
open PySem PySem.Spec PyProof.Rows L2
section
variable {X : Cx} {W : WX} {os os1 os2 : Os} {e1 e2 e3 : Expr} {f1 f2 f3 : Rho → Out (D × Rho)} {pos : Pos}
end
end SW

set_option maxRecDepth 100000
/-! SW15: a caught error kept as a value. -/
namespace SW
open PySem PySem.Spec PyProof.Rows L2
section
variable {X : Cx} {pins : List (Addr × Obj)} {σ : List (Option V)} {H : Hp} {s : Shared}
end
end SW

set_option maxRecDepth 100000
/-! SW16: dicts: keys by data; d[k], k in d, d.get, d.pop, d[k] = v, len(d), loops over d. -/
namespace SW
open PySem PySem.Spec PyProof.Rows L2

/-! ### keys -/
mutual
theorem keyB_keyD : ∀ {d : D} {k : NestedKey}, keyD d = some k → keyB k = d
  | .non, _, e => by cases e; rfl
  | .int i, _, e => by cases e; rfl
  | .tup ds, k, e => by
    unfold keyD at e
    cases q : keyDs ds with
    | none => rw [q] at e; cases e
    | some ks => rw [q] at e; cases e; unfold keyB; rw [keyBs_keyDs q]
  | .bl _, _, e => by cases e
  | .str _, _, e => by cases e
  | .lst _, _, e => by cases e
  | .dct _, _, e => by cases e
  | .ins _ _, _, e => by cases e
  | .exc _ _, _, e => by cases e
  | .scr _, _, e => by cases e
  | .ty _, _, e => by cases e
theorem keyBs_keyDs : ∀ {ds : List D} {ks : List NestedKey}, keyDs ds = some ks → keyBs ks = ds
  | [], _, e => by cases e; rfl
  | d :: ds, ks, e => by
    unfold keyDs at e
    cases q1 : keyD d with
    | none => rw [q1] at e; cases e
    | some k =>
      cases q2 : keyDs ds with
      | none => rw [q1, q2] at e; cases e
      | some ks' => rw [q1, q2] at e; cases e; unfold keyBs; rw [keyB_keyD q1, keyBs_keyDs q2]
end
def KFree (k : NestedKey) : Prop := ∀ w w', NestedKey.hash w k = NestedKey.hash w' k
mutual
theorem keyD_free : ∀ {d : D} {k : NestedKey}, keyD d = some k → KFree k
  | .non, _, e => by cases e; exact fun _ _ => rfl
  | .int i, _, e => by cases e; exact fun _ _ => rfl
  | .tup ds, k, e => by
    unfold keyD at e
    cases q : keyDs ds with
    | none => rw [q] at e; cases e
    | some ks =>
      rw [q] at e
      cases e
      intro w w'
      unfold NestedKey.hash
      rw [keyDs_free q w w']
  | .bl _, _, e => by cases e
  | .str _, _, e => by cases e
  | .lst _, _, e => by cases e
  | .dct _, _, e => by cases e
  | .ins _ _, _, e => by cases e
  | .exc _ _, _, e => by cases e
  | .scr _, _, e => by cases e
  | .ty _, _, e => by cases e
theorem keyDs_free : ∀ {ds : List D} {ks : List NestedKey}, keyDs ds = some ks → ∀ w w', NestedKey.hashes w ks = NestedKey.hashes w' ks
  | [], _, e => by cases e; exact fun _ _ => rfl
  | d :: ds, ks, e => by
    unfold keyDs at e
    cases q1 : keyD d with
    | none => rw [q1] at e; cases e
    | some k =>
      cases q2 : keyDs ds with
      | none => rw [q1, q2] at e; cases e
      | some ks' =>
        rw [q1, q2] at e
        cases e
        intro w w'
        unfold NestedKey.hashes
        rw [keyD_free q1 w w', keyDs_free q2 w w']
end
theorem keyT_some {d : D} {k : NestedKey} (h : keyT d = some k) : ∃ ds, d = .tup ds ∧ keyD (.tup ds) = some k ∧ k.depth ≤ 8 := by
  unfold keyT at h
  split at h
  · rename_i ds
    split at h
    · rename_i k' hk
      split at h
      · rename_i hd
        cases h
        exact ⟨ds, rfl, hk, hd⟩
      · cases h
    · cases h
  · cases h
theorem keyT_of {ds : List D} {k : NestedKey} (h : keyD (.tup ds) = some k) (hd : k.depth ≤ 8) : keyT (.tup ds) = some k := by
  show (match keyD (.tup ds) with | some k => if k.depth ≤ 8 then some k else none | none => none) = some k
  rw [h]
  exact if_pos hd
theorem keyT_back {d : D} {k : NestedKey} (h : keyT d = some k) : keyT (keyB k) = some k := by
  obtain ⟨ds, rfl, h1, h2⟩ := keyT_some h
  rw [keyB_keyD h1]
  exact keyT_of h1 h2
theorem keyT_B {d : D} {k : NestedKey} (h : keyT d = some k) : keyB k = d := by
  obtain ⟨ds, rfl, h1, h2⟩ := keyT_some h
  exact keyB_keyD h1

section
variable {X : Cx} {pins : List (Addr × Obj)} {σ : L2.St} {H S : Hp} {s : Shared}
mutual
theorem At.nest (I : Inv X pins σ H s) (sub : Same S H) : ∀ {v : V} {d : D} {k : NestedKey} {u : Value}, At X.K S v d → keyD d = some k → RelV v u → NestedIs s.heap k u
  | _, .non, _, _, .non, e, r => by cases e; cases r; exact .none
  | _, .int _, _, _, .int i, e, r => by cases e; obtain ⟨t, rfl⟩ := r; exact .int i t
  | _, .tup ds, k, u, .tup (a := a) (vs := vs) h z q, e, r => by
    unfold keyD at e
    cases q1 : keyDs ds with
    | none => rw [q1] at e; cases e
    | some ks =>
      rw [q1] at e
      cases e
      obtain ⟨its, rv, ⟨o, ho, hc, n, hd⟩, _⟩ := I.tuple (sqT_mono sub h)
      cases (show u = Value.ref a from r)
      exact .tup ho hc hd (by simpa using AtL.nest I sub q q1 rv)
  | _, .bl _, _, _, _, e, _ => by cases e
  | _, .str _, _, _, _, e, _ => by cases e
  | _, .lst _, _, _, _, e, _ => by cases e
  | _, .dct _, _, _, _, e, _ => by cases e
  | _, .ins _ _, _, _, _, e, _ => by cases e
  | _, .exc _ _, _, _, _, e, _ => by cases e
  | _, .scr _, _, _, _, e, _ => by cases e
  | _, .ty _, _, _, _, e, _ => by cases e
theorem AtL.nest (I : Inv X pins σ H s) (sub : Same S H) : ∀ {vs : List V} {ds : List D} {ks : List NestedKey} {us : List Value}, AtL X.K S vs ds → keyDs ds = some ks → Vals vs us → NestedAll s.heap ks us
  | _, [], _, _, .nil, e, .nil => by cases e; exact .nil
  | _, d :: ds, ks, _, .cons h t, e, .cons r rs => by
    unfold keyDs at e
    cases q1 : keyD d with
    | none => rw [q1] at e; cases e
    | some k =>
      cases q2 : keyDs ds with
      | none => rw [q1, q2] at e; cases e
      | some ks' =>
        rw [q1, q2] at e
        cases e
        exact .cons (At.nest I sub h q1 r) (AtL.nest I sub t q2 rs)
end
end
/-- at b stands a tuple that is the key k -/
def KeyAt (K : PySem.W.Frag) (H : Hp) (b : Addr) (k : NestedKey) : Prop := ∃ S d, Same S H ∧ At K S (.ref b) d ∧ keyT d = some k
theorem KeyAt.is {X : Cx} {pins : List (Addr × Obj)} {σ : L2.St} {H : Hp} {s : Shared} {b : Addr} {k : NestedKey} (I : Inv X pins σ H s) (h : KeyAt X.K H b k) : (nestedKind X.prog X.w).is s.heap k b := by
  obtain ⟨S, d, sub, hat, e⟩ := h
  obtain ⟨ds, rfl, h1, h2⟩ := keyT_some e
  exact ⟨At.nest I sub hat h1 rfl, h2⟩

/-! ### tables by V -/
abbrev XL := List (NestedKey × Addr × V)
abbrev XR : XL → List (NestedKey × Addr × Value) → Prop := Paired fun p q => p.1 = q.1 ∧ p.2.1 = q.2.1 ∧ RelV p.2.2 q.2.2
def valX (xs : XL) (k : NestedKey) : Option V := (xs.find? fun p => decide (p.1 = k)).map (·.2.2)
def storeX (xs : XL) (k : NestedKey) (b : Addr) (v : V) : XL := if (valX xs k).isSome = true then xs.map (fun p => if p.1 = k then (p.1, p.2.1, v) else p) else xs ++ [(k, b, v)]
def dropX (xs : XL) (k : NestedKey) : XL := xs.filter fun p => decide (p.1 ≠ k)
def valD (ds : List (NestedKey × D)) (k : NestedKey) : Option D := (ds.find? fun p => decide (p.1 = k)).map (·.2)
def putD (ds : List (NestedKey × D)) (k : NestedKey) (d : D) : List (NestedKey × D) := if (valD ds k).isSome = true then ds.map (fun p => if p.1 = k then (p.1, d) else p) else ds ++ [(k, d)]
def dropD (ds : List (NestedKey × D)) (k : NestedKey) : List (NestedKey × D) := ds.filter fun p => decide (p.1 ≠ k)

theorem XR.val {xs : XL} {ys : List (NestedKey × Addr × Value)} (r : XR xs ys) (k : NestedKey) : RelO (valX xs k) ((atKey ys k).map (·.2)) := by
  induction r with
  | nil => exact True.intro
  | @cons p q ps qs h t ih =>
    obtain ⟨h1, _, h2⟩ := h
    unfold valX atKey at *
    rw [List.find?_cons, List.find?_cons]
    by_cases e : p.1 = k
    · rw [decide_eq_true e, decide_eq_true (h1.symm.trans e)]; exact h2
    · rw [decide_eq_false e, decide_eq_false (fun z => e (h1.trans z))]; exact ih
theorem XR.store {xs : XL} {ys : List (NestedKey × Addr × Value)} (r : XR xs ys) (k : NestedKey) (b : Addr) {v : V} {u : Value} (rv : RelV v u) : XR (storeX xs k b v) (storedH ys k b u) := by
  have e : (valX xs k).isSome = (atKey ys k).isSome := by rw [(r.val k).isSome_eq, Option.isSome_map]
  unfold storeX storedH
  rw [e]
  by_cases q : (atKey ys k).isSome = true
  · rw [if_pos q, if_pos q]
    clear e q
    induction r with
    | nil => exact .nil
    | @cons p q ps qs h t ih =>
      rw [List.map_cons, List.map_cons]
      refine .cons ?_ ih
      obtain ⟨h1, h2, h3⟩ := h
      unfold putAt
      by_cases e : p.1 = k
      · rw [if_pos e, if_pos (h1.symm.trans e)]; exact ⟨h1, h2, rv⟩
      · rw [if_neg e, if_neg (fun z => e (h1.trans z))]; exact ⟨h1, h2, h3⟩
  · rw [if_neg q, if_neg q]; exact Paired.snoc r ⟨rfl, rfl, rv⟩
theorem XR.drop {xs : XL} {ys : List (NestedKey × Addr × Value)} (r : XR xs ys) (k : NestedKey) : XR (dropX xs k) (withoutH ys k) := by
  unfold dropX withoutH
  induction r with
  | nil => exact .nil
  | @cons p q ps qs h t ih =>
    obtain ⟨h1, h2, h3⟩ := h
    rw [List.filter_cons, List.filter_cons]
    by_cases e : p.1 = k
    · have a : ¬ decide (p.1 ≠ k) = true := by simp [e]
      have b : ¬ decide (q.1 ≠ k) = true := by simp [h1.symm.trans e]
      rw [if_neg a, if_neg b]; exact ih
    · have e' : ¬ q.1 = k := fun z => e (h1.trans z)
      have a : decide (p.1 ≠ k) = true := by simp [e]
      have b : decide (q.1 ≠ k) = true := by simp [e']
      rw [if_pos a, if_pos b]; exact .cons ⟨h1, h2, h3⟩ ih
theorem entries_xr {P : Program} {w : World} : ∀ {es : List DictEntry} {xs : XL}, EnL es xs → ∃ ys, XR xs ys ∧ es = ys.map (entryOfKey (nestedKind P w))
  | _, _, .nil => ⟨[], .nil, rfl⟩
  | _, _, .cons (a := en) (b := x) h t => by
    obtain ⟨ys, r, e⟩ := entries_xr (P := P) (w := w) t
    obtain ⟨h1, h2, h3⟩ := h
    refine ⟨(x.1, x.2.1, en.val) :: ys, .cons ⟨rfl, rfl, h3⟩ r, ?_⟩
    rw [List.map_cons, ← e]
    congr 1
    cases en
    dsimp only at h1 h2
    unfold entryOfKey
    dsimp only
    rw [h2, h1 w]
    rfl
theorem xr_entries {P : Program} {w : World} : ∀ {xs : XL} {ys : List (NestedKey × Addr × Value)}, XR xs ys → (∀ p ∈ xs, KFree p.1) → EnL (ys.map (entryOfKey (nestedKind P w))) xs
  | _, _, .nil, _ => .nil
  | _, _, .cons (a := x) (b := y) h t, f => by
    obtain ⟨h1, h2, h3⟩ := h
    rw [List.map_cons]
    refine .cons ⟨fun w' => ?_, ?_, h3⟩ (xr_entries t fun p hp => f p (List.mem_cons_of_mem _ hp))
    · show NestedKey.hash w y.1 = _
      rw [← h1]
      exact f x List.mem_cons_self w w'
    · show Value.ref y.2.1 = _
      rw [h2]
theorem EnL.free {es : List DictEntry} {xs : XL} (h : EnL es xs) : ∀ p ∈ xs, KFree p.1 := by
  induction h with
  | nil => intro p hp; cases hp
  | @cons a b as bs h t ih =>
    intro p hp
    rcases List.mem_cons.mp hp with e | hp
    · subst e
      intro w w'
      rw [← h.1 w, ← h.1 w']
    · exact ih p hp

/-- what is known of the dict at a -/
structure DGood (K : PySem.W.Frag) (H : Hp) (a : Addr) (x : DX) : Prop where
  here : H a = some (DT a x)
  sys : (a == sysModules) = false
  ex : x.o.ExactDict
  nodup : (x.xs.map (·.1)).Nodup
  ens : ∃ es ep, x.o.data = .dict es ep ∧ EnL es.toList x.xs
  len : x.xs.length ≤ sizeLine
  ks : ∀ p ∈ x.xs, KeyAt K H p.2.1 p.1

theorem AtL.split {K : PySem.W.Frag} {S : Hp} : ∀ {vs ws : List V} {ds es : List D}, vs.length = ds.length → AtL K S (vs ++ ws) (ds ++ es) → AtL K S vs ds ∧ AtL K S ws es
  | [], _, [], _, _, h => ⟨.nil, h⟩
  | _ :: _, _, _ :: _, _, e, .cons h t => by
    obtain ⟨a, b⟩ := AtL.split (by simpa using e) t
    exact ⟨.cons h a, b⟩
  | [], _, _ :: _, _, e, _ => by simp at e
  | _ :: _, _, [], _, e, _ => by simp at e
section
variable {K : PySem.W.Frag} {S H : Hp} {a : Addr} {x : DX} {ds : List (NestedKey × D)}
theorem DTok.len (t : DTok a x ds) : x.xs.length = ds.length := by
  have := congrArg List.length t.keys
  simpa using this
theorem dct_split (t : DTok a x ds) (r : AtL K S x.vs (dvs ds)) : AtL K S (x.xs.map fun p => V.ref p.2.1) (ds.map fun p => keyB p.1) ∧ AtL K S (x.xs.map fun p => p.2.2) (ds.map fun p => p.2) :=
  AtL.split (by rw [List.length_map, List.length_map]; exact t.len) r
theorem good_of (h : H a = some (DT a x)) (t : DTok a x ds) (z : ds.length ≤ sizeLine) (r : AtL K S x.vs (dvs ds)) (sub : Same S H) : DGood K H a x where
  here := h
  sys := t.sys
  ex := t.ex
  nodup := t.nodup
  ens := t.ens
  len := by rw [t.len]; exact z
  ks := fun p hp => by
    obtain ⟨j, hj⟩ := List.mem_iff_getElem?.mp hp
    obtain ⟨r1, _⟩ := dct_split t r
    obtain ⟨d, ed, hat⟩ := r1.getV (i := j) (v := .ref p.2.1) (by rw [List.getElem?_map, hj]; rfl)
    have e : (ds.map (·.1))[j]? = some p.1 := by rw [← t.keys, List.getElem?_map, hj]; rfl
    rw [List.getElem?_map] at e ed
    cases q : ds[j]? with
    | none => rw [q] at e; cases e
    | some y =>
      rw [q] at e ed
      have e1 : y.1 = p.1 := Option.some.inj e
      have e2 : keyB y.1 = d := Option.some.inj ed
      rw [← e2, e1] at hat
      exact ⟨S, _, sub, hat, t.kk p hp⟩
theorem find_keys {α β : Type} (f : α → NestedKey) (g : β → NestedKey) (k : NestedKey) : ∀ {xs : List α} {ys : List β}, xs.map f = ys.map g → (∃ j : Nat, (xs.find? fun p => decide (f p = k)) = xs[j]? ∧ (ys.find? fun p => decide (g p = k)) = ys[j]?)
  | [], [], _ => ⟨0, rfl, rfl⟩
  | [], _ :: _, e => by simp at e
  | _ :: _, [], e => by simp at e
  | x :: xs, y :: ys, e => by
    rw [List.map_cons, List.map_cons] at e
    injection e with e1 e2
    by_cases h : f x = k
    · exact ⟨0, by simp [List.find?_cons, h], by simp [List.find?_cons, ← e1, h]⟩
    · obtain ⟨j, h1, h2⟩ := find_keys f g k e2
      exact ⟨j + 1, by simp [List.find?_cons, h, h1], by simp [List.find?_cons, ← e1, h, h2]⟩
theorem val_at (t : DTok a x ds) (r : AtL K S x.vs (dvs ds)) (k : NestedKey) : (∃ v d, valX x.xs k = some v ∧ valD ds k = some d ∧ At K S v d) ∨ (valX x.xs k = none ∧ valD ds k = none) := by
  obtain ⟨_, r2⟩ := dct_split t r
  obtain ⟨j, e1, e2⟩ := find_keys (fun p : NestedKey × Addr × V => p.1) (fun p : NestedKey × D => p.1) k t.keys
  have hl := t.len
  unfold valX valD
  rw [e1, e2]
  cases q : x.xs[j]? with
  | none =>
    have : ds[j]? = none := by
      rw [List.getElem?_eq_none_iff] at q ⊢
      omega
    rw [this]
    exact .inr ⟨rfl, rfl⟩
  | some p =>
    obtain ⟨d, ed, hat⟩ := r2.getV (i := j) (v := p.2.2) (by rw [List.getElem?_map, q]; rfl)
    rw [List.getElem?_map] at ed
    cases q2 : ds[j]? with
    | none => rw [q2] at ed; cases ed
    | some y => rw [q2] at ed; exact .inl ⟨_, _, rfl, ed, hat⟩
end
section
variable {X : Cx} {pins : List (Addr × Obj)} {σ : L2.St} {H : Hp} {s : Shared} {a b : Addr} {x : DX} {k : NestedKey} {A : Around} {E : Value → Shared → Prop} {v : V} {u r : Value}
theorem DGood.dict (g : DGood X.K H a x) (I : Inv X pins σ H s) : ∃ ys, XR x.xs ys ∧ s.heap.DictOfH (nestedKind X.prog X.w) a ys ∧ ys.length ≤ sizeLine ∧ s.heap.get? a = some x.o := by
  have ho : s.heap.get? a = some x.o := (show ObjOk X.prog X.w H s.heap a (DT a x) from I.hok a _ g.here).1
  obtain ⟨es, ep, hd, en⟩ := g.ens
  obtain ⟨ys, r, e⟩ := entries_xr (P := X.prog) (w := X.w) en
  have hk : x.xs.map (·.1) = ys.map (·.1) := by
    clear e en
    have n := g.nodup
    clear n
    generalize x.xs = xs at r
    induction r with
    | nil => rfl
    | cons h t ih => rw [List.map_cons, List.map_cons, ih, h.1]
  refine ⟨ys, r, ⟨x.o, es, ep, ho, g.ex, hd, e, fun y hy => ?_, by rw [← hk]; exact g.nodup⟩, by rw [← Paired.length r]; exact g.len, ho⟩
  have all : ∀ {l : XL} {m : List (NestedKey × Addr × Value)}, XR l m → (∀ p ∈ l, (nestedKind X.prog X.w).is s.heap p.1 p.2.1) → ∀ y ∈ m, (nestedKind X.prog X.w).is s.heap y.1 y.2.1 := by
    intro l m q
    induction q with
    | nil => intro _ y hy; cases hy
    | @cons p q ps qs hq t ih =>
      intro hl y hy
      rcases List.mem_cons.mp hy with e | hy
      · subst e
        have := hl p List.mem_cons_self
        rw [hq.1, hq.2.1] at this
        exact this
      · exact ih (fun p hp => hl p (List.mem_cons_of_mem _ hp)) y hy
  exact all r (fun p hp => (g.ks p hp).is I) y hy
theorem dt_ok {P : Program} {w : World} {h : Heap} (e : h.get? a = some x.o) : ObjOk P w H h a (DT a x) := ⟨e, ⟨_, e⟩, fun _ _ p k => k _ p⟩
theorem DGood.typeIs (g : DGood X.K H a x) (I : Inv X pins σ H s) : s.TypeIs (.ref a) "dict" := by
  obtain ⟨ys, _, d, _, _⟩ := g.dict I
  exact d.typeIs
theorem roomN (hu : A.units + 64 < cLine) : (nestedKind X.prog X.w).room A.in1 := by
  show A.units + 1 + 8 < cLine
  omega
/-- d[k], there -/
theorem dn_getItem {Q : Value → Shared → Prop} (hu : A.units + 64 < cLine) (I : Inv X pins σ H s) (g : DGood X.K H a x) (hk : KeyAt X.K H b k) (l : valX x.xs k = some v) (h : ∀ w' s', Inv X pins σ H s' → RelV v w' → Q w' s') :
    wpAny (model X.prog X.w) A (getItem (.ref a) (.ref b)) Q E s := by
  obtain ⟨ys, rel, dd, z, _⟩ := g.dict I
  obtain ⟨w', hw, rw'⟩ := RelO.some_of (v := v) (o := (atKey ys k).map (·.2)) (by rw [← l]; exact rel.val k)
  obtain ⟨p, hp, hp2⟩ := Option.map_eq_some_iff.mp hw
  refine wpAny_getItem_heap (roomN (X := X) hu) (hk.is I) dd hp ?_
  rw [hp2]
  exact h w' _ (I.tok _) rw'
theorem dn_in {Q : Value → Shared → Prop} (hu : A.units + 64 < cLine) (I : Inv X pins σ H s) (g : DGood X.K H a x) (hk : KeyAt X.K H b k) (h : ∀ s', Inv X pins σ H s' → Q (.bool (valX x.xs k).isSome) s') :
    wpAny (model X.prog X.w) A (compareOp .In (.ref b) (.ref a)) Q E s := by
  obtain ⟨ys, rel, dd, z, _⟩ := g.dict I
  refine wpAny_in_heap (roomN (X := X) hu) (hk.is I) g.sys dd ?_
  have q := (rel.val k).isSome_eq
  rw [Option.isSome_map] at q
  rw [← q]
  exact h _ (I.tok _)
/-- the dict's object and its table are new -/
def NewX (a : Addr) (xs : XL) (y : DX) : Prop := y.xs = xs ∧ (a == sysModules) = false ∧ y.o.ExactDict ∧ (xs.map (·.1)).Nodup ∧ ∃ es ep, y.o.data = .dict es ep ∧ EnL es.toList xs
theorem new_x {h' : Heap} {xs : XL} {ys : List (NestedKey × Addr × Value)} (hs : (a == sysModules) = false) (dd : h'.DictOfH (nestedKind X.prog X.w) a ys) (rel : XR xs ys) (f : ∀ p ∈ xs, KFree p.1) : ∃ y : DX, NewX a xs y ∧ h'.get? a = some y.o := by
  obtain ⟨o, es, ep, ho, hx, hd, he, his, hn⟩ := dd
  clear his
  have hk : xs.map (·.1) = ys.map (·.1) := by
    clear f he hn
    induction rel with
    | nil => rfl
    | cons h t ih => rw [List.map_cons, List.map_cons, ih, h.1]
  exact ⟨⟨o, xs⟩, ⟨rfl, hs, hx, by rw [hk]; exact hn, es, ep, hd, by rw [he]; exact xr_entries rel f⟩, ho⟩
theorem DGood.free (g : DGood X.K H a x) : ∀ p ∈ x.xs, KFree p.1 := by
  obtain ⟨es, ep, _, en⟩ := g.ens
  exact en.free
theorem KeyAt.free (h : KeyAt X.K H b k) : KFree k := by
  obtain ⟨S, d, sub, hat, e⟩ := h
  obtain ⟨ds, rfl, h1, h2⟩ := keyT_some e
  exact keyD_free h1
theorem storeX_mem {xs : XL} {p : NestedKey × Addr × V} (h : p ∈ storeX xs k b v) : p.1 = k ∧ p.2.1 = b ∨ ∃ q ∈ xs, q.1 = p.1 ∧ q.2.1 = p.2.1 := by
  unfold storeX at h
  split at h
  · obtain ⟨q, hq, e⟩ := List.mem_map.mp h
    refine .inr ⟨q, hq, ?_⟩
    split at e <;> subst e <;> exact ⟨rfl, rfl⟩
  · rcases List.mem_append.mp h with h | h
    · exact .inr ⟨p, h, rfl, rfl⟩
    · have : p = (k, b, v) := by simpa using h
      subst this
      exact .inl ⟨rfl, rfl⟩
/-- d[k] = v -/
theorem dn_setItem {Q : Unit → Shared → Prop} (hu : A.units + 64 < cLine) (I : Inv X pins σ H s) (g : DGood X.K H a x) (hk : KeyAt X.K H b k) (rv : RelV v r) (h : ∀ y s', NewX a (storeX x.xs k b v) y → Inv X pins σ (upd H a (DT a y)) s' → Q () s') :
    wpAny (model X.prog X.w) A (setItem (.ref a) (.ref b) r) Q E s := by
  obtain ⟨ys, rel, dd, z, _⟩ := g.dict I
  refine wpAny_setItem_heap (hsz := z) (roomN (X := X) hu) (hk.is I) dd fun h' dd' hs => ?_
  obtain ⟨y, ny, ho⟩ := new_x (X := X) g.sys dd' (rel.store k b rv) fun p hp => by
    rcases storeX_mem hp with ⟨e, _⟩ | ⟨q, hq, e, _⟩
    · rw [e]; exact hk.free
    · rw [← e]; exact g.free q hq
  exact h y _ ny (d_write I (by rw [g.here]; exact True.intro) hs ⟨_, ho⟩ (dt_ok ho))
/-- len(d) -/
theorem dn_len {Q : Value → Shared → Prop} (I : Inv X pins σ H s) (g : DGood X.K H a x) (h : ∀ t s', Inv X pins σ H s' → Q (.int (x.xs.length : Nat) t) s') : wpAny (model X.prog X.w) A (call (.builtin "len") [.ref a]) Q E s := by
  obtain ⟨ys, rel, dd, z, _⟩ := g.dict I
  refine call_len_dictH g.sys dd (by rw [sizeLine_eq] at z; omega) ?_
  rw [← Paired.length rel]
  exact h _ _ (I.tok _)
end
end SW

set_option maxRecDepth 100000
/-! SW17: dicts in expressions and statements. -/
namespace SW
open PySem PySem.Spec PyProof.Rows L2

/-! ### what is in a dict, entry by entry -/
abbrev XD (K : PySem.W.Frag) (S : Hp) : XL → List (NestedKey × D) → Prop := Paired fun p q => p.1 = q.1 ∧ At K S (.ref p.2.1) (keyB q.1) ∧ At K S p.2.2 q.2
section
variable {K : PySem.W.Frag} {S H : Hp} {a b : Addr} {x y : DX} {ds : List (NestedKey × D)} {k : NestedKey} {v : V} {d dk : D}
theorem xd_of : ∀ {xs : XL} {ds : List (NestedKey × D)}, xs.map (·.1) = ds.map (·.1) → AtL K S (xs.map fun p => V.ref p.2.1) (ds.map fun p => keyB p.1) → AtL K S (xs.map fun p => p.2.2) (ds.map fun p => p.2) → XD K S xs ds
  | [], [], _, _, _ => .nil
  | [], _ :: _, e, _, _ => by simp at e
  | _ :: _, [], e, _, _ => by simp at e
  | p :: xs, q :: ds, e, .cons h1 t1, .cons h2 t2 => by
    rw [List.map_cons, List.map_cons] at e
    injection e with e1 e2
    exact .cons ⟨e1, h1, h2⟩ (xd_of e2 t1 t2)
theorem of_xd : ∀ {xs : XL} {ds : List (NestedKey × D)}, XD K S xs ds → xs.map (·.1) = ds.map (·.1) ∧ AtL K S (xs.map fun p => V.ref p.2.1) (ds.map fun p => keyB p.1) ∧ AtL K S (xs.map fun p => p.2.2) (ds.map fun p => p.2)
  | _, _, .nil => ⟨rfl, .nil, .nil⟩
  | _, _, .cons h t => by
    obtain ⟨a, b, c⟩ := of_xd t
    refine ⟨?_, .cons h.2.1 b, .cons h.2.2 c⟩
    rw [List.map_cons, List.map_cons, a, h.1]
theorem DTok.xd (t : DTok a x ds) (r : AtL K S x.vs (dvs ds)) : XD K S x.xs ds := by
  obtain ⟨r1, r2⟩ := dct_split t r
  exact xd_of t.keys r1 r2
theorem XD.val {xs : XL} (r : XD K S xs ds) (k : NestedKey) : (valX xs k).isSome = (valD ds k).isSome := by
  induction r with
  | nil => rfl
  | @cons p q ps qs h t ih =>
    unfold valX valD at *
    rw [List.find?_cons, List.find?_cons]
    by_cases e : p.1 = k
    · rw [decide_eq_true e, decide_eq_true (h.1.symm.trans e)]; rfl
    · rw [decide_eq_false e, decide_eq_false (fun z => e (h.1.trans z))]; exact ih
theorem XD.store {xs : XL} (r : XD K S xs ds) (hb : At K S (.ref b) (keyB k)) (hv : At K S v d) : XD K S (storeX xs k b v) (putD ds k d) := by
  unfold storeX putD
  rw [r.val k]
  split
  · rename_i q
    clear q
    induction r with
    | nil => exact .nil
    | @cons p q ps qs h t ih =>
      rw [List.map_cons, List.map_cons]
      refine .cons ?_ ih
      obtain ⟨h1, h2, h3⟩ := h
      by_cases e : p.1 = k
      · rw [if_pos e, if_pos (h1.symm.trans e)]; exact ⟨h1, h2, hv⟩
      · rw [if_neg e, if_neg (fun z => e (h1.trans z))]; exact ⟨h1, h2, h3⟩
  · exact Paired.snoc r ⟨rfl, hb, hv⟩
theorem XD.drop {xs : XL} (r : XD K S xs ds) (k : NestedKey) : XD K S (dropX xs k) (dropD ds k) := by
  unfold dropX dropD
  induction r with
  | nil => exact .nil
  | @cons p q ps qs h t ih =>
    obtain ⟨h1, h2, h3⟩ := h
    rw [List.filter_cons, List.filter_cons]
    by_cases e : p.1 = k
    · have a : ¬ decide (p.1 ≠ k) = true := by simp [e]
      have b : ¬ decide (q.1 ≠ k) = true := by simp [h1.symm.trans e]
      rw [if_neg a, if_neg b]; exact ih
    · have e' : ¬ q.1 = k := fun z => e (h1.trans z)
      have a : decide (p.1 ≠ k) = true := by simp [e]
      have b : decide (q.1 ≠ k) = true := by simp [e']
      rw [if_pos a, if_pos b]; exact .cons ⟨h1, h2, h3⟩ ih
/-- a new object with a new table is a dict of these data -/
theorem NewX.tok {xs : XL} (n : NewX a xs y) (r : XD K S xs ds) (hk : ∀ p ∈ xs, keyT (keyB p.1) = some p.1) : DTok a y ds ∧ AtL K S y.vs (dvs ds) := by
  obtain ⟨rfl, h1, h2, h3, h4⟩ := n
  obtain ⟨e, r1, r2⟩ := of_xd r
  exact ⟨⟨h1, h2, e, h3, hk, h4⟩, r1.append r2⟩
theorem store_kk {xs : XL} (h : ∀ p ∈ xs, keyT (keyB p.1) = some p.1) (hk : keyT dk = some k) : ∀ p ∈ storeX xs k b v, keyT (keyB p.1) = some p.1 := fun p hp => by
  rcases storeX_mem hp with ⟨e, _⟩ | ⟨q, hq, e, _⟩
  · rw [e]; exact keyT_back hk
  · rw [← e]; exact h q hq
theorem putD_len (ds : List (NestedKey × D)) (k : NestedKey) (d : D) : (putD ds k d).length ≤ ds.length + 1 := by
  unfold putD
  split
  · rw [List.length_map]; omega
  · rw [List.length_append]; simp
theorem at_key {K : PySem.W.Frag} {S : Hp} {v : V} {d : D} {k : NestedKey} (h : At K S v d) (e : keyT d = some k) : ∃ b, v = .ref b ∧ At K S (.ref b) (keyB k) := by
  have e2 := keyT_B e
  obtain ⟨ds, rfl, _, _⟩ := keyT_some e
  rw [e2]
  cases h with
  | tup h z r => exact ⟨_, rfl, .tup h z r⟩
theorem key_at {K : PySem.W.Frag} {S H : Hp} {b : Addr} {d : D} {k : NestedKey} (h : At K S (.ref b) d) (e : keyT d = some k) (sub : Same S H) : KeyAt K H b k := ⟨S, d, sub, h, e⟩
end

section
variable {X : Cx} {W : WX} {L : Lc} {os os1 os2 os3 : Os} {e e1 e2 e3 : Expr} {f f1 f2 f3 : Rho → Out (D × Rho)} {pos p : Pos} {td ty tx : TE} {t1 t2 : TE} {o i : Expr}
theorem pe_or (h1 : PE X e t1) (h2 : PE X e t2) : PE X e (fun σ H Q => t1 σ H Q ∨ t2 σ H Q) := ⟨fun pins s σ H Q I q => q.elim (h1.run pins s σ H Q I) (h2.run pins s σ H Q I)⟩
theorem turnX {S H : Hp} {σ : Sg} {ρ : Rho} {i : Nat} {a : Addr} {y : DX} {ds : List (NestedKey × D)} (rel : Rel X.K S H os σ ρ) (ho : os.getD i false = true) (ev : σ[i]? = some (some (.ref a))) (na : S a = none) (z : ds.length ≤ sizeLine) (t : DTok a y ds) (r : AtL X.K S y.vs (dvs ds)) :
    Rel X.K S (upd H a (DT a y)) os σ (ρ.set i (some (.dct ds))) ∧ Stp os σ S H os σ S (upd H a (DT a y)) :=
  ⟨rel.turn ho ev ⟨a, rfl, na, _, upd_same, .dct t z r⟩, Stp.turn rel ho ev⟩

/-! ### d[k] -/
def ixA : D → D → Option D
  | .dct ds, k => (keyT k).bind (valD ds)
  | d, k => ixD d k
theorem ixA_ne {d k : D} (h : ∀ ds, d ≠ .dct ds) : ixA d k = ixD d k := by
  cases d <;> first | rfl | exact (h _ rfl).elim
def tDIxN (K : PySem.W.Frag) (td ty : TE) : TE := fun σ H Q => td σ H fun x H1 => ty σ H1 fun y H2 => ∃ a b dx k v, x = .ref a ∧ y = .ref b ∧ DGood K H2 a dx ∧ KeyAt K H2 b k ∧ valX dx.xs k = some v ∧ Q v H2
theorem pe_dixN (hu : X.A.units + 64 < cLine) (ho : PE X o td) (hi : PE X i ty) (hs : PlainIx i) : PE X (.Subscript o i pos) (tDIxN X.K td ty) := by
  refine ⟨fun pins s σ H Q I h => ?_⟩
  refine subD_of PySem.F.slot_dict_getitem.lookup hs (thn (ho.run pins s σ H _ I h) fun u s1 ⟨x, H1, I1, rx, q1⟩ => thn (hi.run pins s1 σ H1 _ I1 q1) fun iv s2 ⟨y, H2, I2, ry, a, b, dx, k, v, ex, ey, g, hk, l, q2⟩ => ?_)
  subst ex ey
  obtain rfl : u = Value.ref a := rx
  obtain rfl : iv = Value.ref b := ry
  exact ⟨g.typeIs I2, dn_getItem hu I2 g hk l fun w' s3 I3 rw' => ⟨v, H2, I3, rw', q2⟩⟩
theorem ve_ixA (hu : X.A.units + 64 < cLine) (ha : VE X W os e1 f1 os1 false) (hb : VE X W os1 e2 f2 os2 false) (hs : PlainIx e2 := by exact fun _ _ => rfl) : VE X W os (.Subscript e1 e2 pos) (eOp2 ixA f1 f2) os2 false := by
  obtain ⟨t0, p0, k0⟩ : VE X W os (.Subscript e1 e2 pos) (eOp2 ixD f1 f2) os2 false := ve_ix ha hb hs
  obtain ⟨ta, pa, ka⟩ := ha
  obtain ⟨tb, pb, kb⟩ := hb
  refine ⟨_, pe_or p0 (pe_dixN hu pa pb hs), fun S σ H ρ Q rel P => ?_⟩
  by_cases hd : ∃ ds ρ1, f1 ρ = .ok (.dct ds, ρ1)
  · obtain ⟨ds, ρ1, hf⟩ := hd
    refine .inr (ka S σ H ρ _ rel ?_)
    unfold eOp2 at P
    rw [hf] at P ⊢
    intro v S1 H1 st1 rel1 q1
    have P1 : Post X W S1 H1 os1 σ os2 (RV X.K false) Q ((f2 ρ1).bind fun q => (Out.of (ixA (.dct ds) q.1)).bind fun c => .ok (c, q.2)) := Post.step RV.ok P st1
    refine kb S1 σ H1 ρ1 _ rel1 (Post.seq P1 (fun z => z) (fun c fs p => p) fun d2 ρ2 v2 S2 H2 st2 rel2 q2 P2 => ?_)
    obtain ⟨c, hc, kk⟩ := post_of (P2.step RV.ok st2) rel2
    have hc : (keyT d2).bind (valD ds) = some c := hc
    obtain ⟨k, hk, hv⟩ := Option.bind_eq_some_iff.mp hc
    have q2 : At X.K S2 v2 d2 := q2
    obtain ⟨b, rfl, hb⟩ := at_key q2 hk
    cases (At.mono st2.ext.s (show At X.K S1 v (.dct ds) from q1)) with
    | @dct a x _ h t z r =>
      rcases val_at t r k with ⟨w, d, e1, e2, hat⟩ | ⟨_, e2⟩
      · rw [hv] at e2
        cases e2
        exact ⟨a, b, x, k, w, rfl, rfl, good_of (rel2.sub _ _ h) t z r rel2.sub, key_at q2 hk rel2.sub, e1, kk w S2 H2 (Ext.refl rel2.sub) hat⟩
      · rw [hv] at e2; cases e2
  · refine .inl (k0 S σ H ρ Q rel ?_)
    have e : eOp2 ixA f1 f2 ρ = eOp2 ixD f1 f2 ρ := by
      unfold eOp2
      cases hf : f1 ρ with
      | ok z =>
        obtain ⟨d, ρ1⟩ := z
        show ((f2 ρ1).bind fun q => (Out.of (ixA d q.1)).bind fun c => .ok (c, q.2)) = (f2 ρ1).bind fun q => (Out.of (ixD d q.1)).bind fun c => .ok (c, q.2)
        congr 1
        funext q
        rw [ixA_ne fun ds z => hd ⟨ds, ρ1, by rw [hf, z]⟩]
      | exc c fs => rfl
      | stuck => rfl
    rw [← e]
    exact P
/-- x[e], x an owning name -/
def eIxA (i : Nat) (f : Rho → Out (D × Rho)) : Rho → Out (D × Rho) := fun ρ => match ρ.getD i none with
  | some (.dct _) => (f ρ).bind fun p => match p.2.getD i none with
    | some (.dct ds) => (Out.of ((keyT p.1).bind (valD ds))).bind fun c => .ok (c, p.2)
    | _ => .stuck
  | some _ => eIxO i f ρ
  | none => .stuck
theorem ve_ixAO (hu : X.A.units + 64 < cLine) (i : Nat) {x : Str} (hb : VE X W os e2 f2 os1 false) (ho : os.getD i false = true := by rfl) (ho1 : os1.getD i false = true := by rfl) (hN : X.N[i]? = some x := by rfl) (hv : Vis X.env.scope x := by first | exact Or.inl rfl | exact Or.inr (Or.inl rfl) | exact Or.inr (Or.inr rfl))
    (hs : PlainIx e2 := by exact fun _ _ => rfl) (hd : (x == ("__debug__" : Str)) = false := by decide) (hcd : (x == ("__classdict__" : Str)) = false := by decide) : VE X W os (.Subscript (.Name x p) e2 pos) (eIxA i f2) os1 false := by
  obtain ⟨t0, p0, k0⟩ : VE X W os (.Subscript (.Name x p) e2 pos) (fun ρ => match ρ.getD i none with | some _ => eIxO i f2 ρ | none => .stuck) os1 false := ve_ixO i hb ho ho1 hN hv hs hd hcd
  obtain ⟨tb, pb, kb⟩ := hb
  refine ⟨_, pe_or p0 (pe_dixN hu (pe_var hN hv hd hcd) pb hs), fun S σ H ρ Q rel P => ?_⟩
  unfold eIxA at P
  cases h0 : ρ.getD i none with
  | none => rw [h0] at P; exact P.elim
  | some d0 =>
    rw [h0] at P
    by_cases hdd : ∃ ds, d0 = .dct ds
    · obtain ⟨ds0, rfl⟩ := hdd
      obtain ⟨v, ev, _⟩ := rel.own (getD_some h0) ho
      refine .inr ⟨v, ev, kb S σ H ρ _ rel (Post.seq P (fun z => z) (fun c fs p => p) fun d2 ρ2 v2 S2 H2 st2 rel2 q2 P2 => ?_)⟩
      have P2 := P2.step RV.ok st2
      dsimp only at P2
      cases h1 : ρ2.getD i none with
      | none => rw [h1] at P2; exact P2.elim
      | some d1 =>
        rw [h1] at P2
        obtain ⟨v', ev', hown⟩ := rel2.own (getD_some h1) ho1
        rw [ev] at ev'
        cases ev'
        obtain ⟨a, ea, na, oo, eh, bd⟩ := hown
        subst ea
        cases bd with
        | @dct x ds t z r =>
          have P2 : Post X W S2 H2 os1 σ os1 (RV X.K false) Q ((Out.of ((keyT d2).bind (valD ds))).bind fun c => .ok (c, ρ2)) := P2
          obtain ⟨c, hc, kk⟩ := post_of P2 rel2
          obtain ⟨k, hk, hv⟩ := Option.bind_eq_some_iff.mp hc
          have q2 : At X.K S2 v2 d2 := q2
          obtain ⟨b, rfl, hb⟩ := at_key q2 hk
          rcases val_at t r k with ⟨w, d, e1, e2, hat⟩ | ⟨_, e2⟩
          · rw [hv] at e2
            cases e2
            exact ⟨a, b, x, k, w, rfl, rfl, good_of eh t z r rel2.sub, key_at q2 hk rel2.sub, e1, kk w S2 H2 (Ext.refl rel2.sub) hat⟩
          · rw [hv] at e2; cases e2
        | _ => exact P2.elim
    · refine .inl (k0 S σ H ρ Q rel ?_)
      dsimp only
      rw [h0]
      cases d0 <;> first | exact P | exact (hdd ⟨_, rfl⟩).elim

/-! ### k in d, len(d) -/
def inDct : D → D → Option D
  | k, .dct ds => (keyT k).map fun k => .bl (valD ds k).isSome
  | _, _ => none
def rInN (K : PySem.W.Frag) (f : Bool → Bool) : R2 := fun x y H Q => ∃ a b dx k, x = .ref b ∧ y = .ref a ∧ DGood K H a dx ∧ KeyAt K H b k ∧ Q (.bl (f (valX dx.xs k).isSome)) H
theorem op_inN (hu : X.A.units + 64 < cLine) : OpR X (compareOp .In) (rInN X.K id) := by
  intro pins s σ H x y v u Q I rx ry h
  obtain ⟨a, b, dx, k, rfl, rfl, g, hk, q⟩ := h
  obtain rfl : v = Value.ref b := rx
  obtain rfl : u = Value.ref a := ry
  exact dn_in hu I g hk fun s3 I3 => ⟨.bl _, H, I3, rfl, q⟩
theorem o_inN (hu : X.A.units + 64 < cLine) : Op2 X (compareOp .In) inDct := ⟨_, op_inN hu, fun S H x y a b c Q sub ha hb e k => by
  cases hb with
  | @dct q dx ds h t z r =>
    obtain ⟨kk, hk, rfl⟩ := Option.map_eq_some_iff.mp (show (keyT a).map _ = some c from e)
    obtain ⟨b', rfl, hb'⟩ := at_key ha hk
    refine ⟨q, b', dx, kk, rfl, rfl, good_of (sub _ _ h) t z r sub, key_at ha hk sub, ?_⟩
    rw [(t.xd r).val kk]
    exact k _ S H (Ext.refl sub) (.bl _)
  | _ => cases e⟩
def inA : D → D → Option D := fun a b => match inDct a b with | some c => some c | none => inD a b
theorem o_inA (hu : X.A.units + 65 < cLine) : Op2 X (compareOp .In) inA := (o_inN (by omega)).or (o_in hu)
def lenDct : List D → Option D
  | [.dct ds] => some (.int ds.length)
  | _ => none
def rLenN (K : PySem.W.Frag) : List V → Hp → VK → Prop := fun xs H Q => ∃ a dx, xs = [.ref a] ∧ DGood K H a dx ∧ Q (.int (dx.xs.length : Nat)) H
theorem call_lenN : CallR X (.builtin "len") (rLenN X.K) := by
  intro pins s σ H xs us Q I r h
  obtain ⟨a, dx, rfl, g, q⟩ := h
  obtain ⟨u, rfl, rx⟩ := vals1 r
  obtain rfl : u = Value.ref a := rx
  exact dn_len I g fun t s' I' => ⟨.int (dx.xs.length : Nat), H, I', ⟨t, rfl⟩, q⟩
theorem c_lenN : CallD X (.builtin "len") lenDct := ⟨_, call_lenN, fun S H vs ds c Q sub ha e k => by
  unfold lenDct at e
  split at e
  · cases e
    match vs, ha with
    | [_], .cons (.dct (a := a) (x := dx) h t z r) .nil =>
      refine ⟨a, dx, rfl, good_of (sub _ _ h) t z r sub, ?_⟩
      rw [t.len]
      exact k _ S H (Ext.refl sub) (.int _)
  · cases e⟩
def lenA : List D → Option D := fun ds => match lenD ds with | some c => some c | none => lenDct ds
theorem c_lenA : CallD X (.builtin "len") lenA := c_len.or c_lenN

/-! ### d.get(k, z) -/
/-- d.get(k, z), d a dict that stands -/
def eDGet (f g h : Rho → Out (D × Rho)) : Rho → Out (D × Rho) := fun ρ => (f ρ).bind fun p => match p.1 with
  | .dct ds => (g p.2).bind fun q => (h q.2).bind fun r => (Out.of ((keyT q.1).map fun k => (valD ds k).getD r.1)).bind fun c => .ok (c, r.2)
  | _ => .stuck
/-- d.get(k, z), d an owning name -/
def eDGetO (i : Nat) (g h : Rho → Out (D × Rho)) : Rho → Out (D × Rho) := fun ρ => match ρ.getD i none with
  | some (.dct _) => (g ρ).bind fun q => (h q.2).bind fun r => (match r.2.getD i none with
    | some (.dct ds) => (Out.of ((keyT q.1).map fun k => (valD ds k).getD r.1)).bind fun c => .ok (c, r.2)
    | _ => .stuck)
  | _ => .stuck
/-! ### d.pop(k), d[k] = v, {} -/
def eDPop (i : Nat) (g : Rho → Out (D × Rho)) : Rho → Out (D × Rho) := fun ρ => match ρ.getD i none with
  | some (.dct _) => (g ρ).bind fun q => (match q.2.getD i none with
    | some (.dct ds) => (Out.of ((keyT q.1).bind fun k => (valD ds k).map fun c => (c, dropD ds k))).bind fun c => .ok (c.1, q.2.set i (some (.dct c.2)))
    | _ => .stuck)
  | _ => .stuck
/-- {} -/
def tDNewN : TE := fun _ H Q => ∀ p y, H p = none → NewX p [] y → Q (.ref p) (upd H p (DT p y))
theorem pe_dnewN : PE X (.Dict [] [] pos) tDNewN := ⟨fun pins s σ H Q I h => by
  have ho : (s.heap.push { cls := .type "dict", data := .dict #[] }).get? s.heap.objs.size = some { cls := .type "dict", data := .dict #[] } := Heap.get?_push_size _ rfl
  refine wpAny_Dict_empty ⟨.ref s.heap.objs.size, _, I.laid (a := s.heap.objs.size) (o := DT s.heap.objs.size ⟨{ cls := .type "dict", data := .dict #[] }, []⟩) (t' := s.toks) (fun _ _ q => Heap.get?_push_of_some _ q) (Nat.le_refl _) (dt_ok ho), rfl, h _ _ (I.hok.fresh (Nat.le_refl _)) ?_⟩
  exact ⟨rfl, beq_eq_false_iff_ne.mpr (Ne.symm (Nat.ne_of_lt I.big)), ⟨rfl, rfl, rfl⟩, List.nodup_nil, #[], 0, rfl, .nil⟩⟩
def eDNew : Rho → Out (D × Rho) := fun ρ => .ok (.dct [], ρ)
theorem OwnAt.mkX {K : PySem.W.Frag} {S H : Hp} {a : Addr} {y : DX} {ds : List (NestedKey × D)} (n : S a = none) (h : H a = some (DT a y)) (t : DTok a y ds) (z : ds.length ≤ sizeLine) (r : AtL K S y.vs (dvs ds)) : OwnAt K S H (.ref a) (.dct ds) := ⟨a, rfl, n, _, h, .dct t z r⟩
theorem ve_dnew : VE X W os (.Dict [] [] pos) eDNew os true := ⟨_, pe_dnewN, fun S σ H ρ Q rel P p y np hn => by
  have xx := Ext.newO (O := fun _ => False) (o := DT p y) rel.sub np
  obtain ⟨t, r⟩ := hn.tok (K := X.K) (S := S) (ds := []) .nil fun p hp => by cases hp
  exact P (.ref p) S _ (Stp.of_ext xx) (rel.ext0 xx) ⟨.mkX (rel.sub.free np) upd_same t (Nat.zero_le _) r, fun a e => by cases e; exact np⟩⟩

def sDPutN (K : PySem.W.Frag) (td ty tv : TE) : TS := fun Ds σ H => tv σ H fun v H1 => td σ H1 fun x H2 => ty σ H2 fun y H3 => ∃ a b dx k, x = .ref a ∧ y = .ref b ∧ DGood K H3 a dx ∧ KeyAt K H3 b k ∧ ∀ n, NewX a (storeX dx.xs k b v) n → Ds.nx σ (upd H3 a (DT a n))
theorem ps_dputN {value : Expr} {pos' : Pos} {tv : TE} (hu : X.A.units + 64 < cLine) (ho : PE X o td) (hi : PE X i ty) (hv : PE X value tv) (hs : swapsWith value (some (.Subscript o i pos')) pos.line X.env = pure false) :
    PS X (.Assign [.Subscript o i pos'] value pos) (sDPutN X.K td ty tv) := by
  refine ⟨fun pins s σ H D I h => ?_⟩
  refine wpAny_Assign_Subscript (thn (hv.run pins s σ H _ I h) fun r s1 ⟨v, H1, I1, rv, q1⟩ => thn (ho.run pins s1 σ H1 _ I1 q1) fun u s2 ⟨x, H2, I2, rx, q2⟩ => thn (hi.run pins s2 σ H2 _ I2 q2) fun iv s3 ⟨y, H3, I3, ry, a, b, dx, k, ex, ey, g, hk, q3⟩ => ?_) hs
  subst ex ey
  obtain rfl : u = Value.ref a := rx
  obtain rfl : iv = Value.ref b := ry
  exact dn_setItem hu I3 g hk rv fun n s4 hn I4 => ⟨σ, _, I4, q3 n hn⟩
theorem ps_or {st : Stmt} {t1 t2 : TS} (h1 : PS X st t1) (h2 : PS X st t2) : PS X st (fun D σ H => t1 D σ H ∨ t2 D σ H) := ⟨fun pins s σ H D I q => q.elim (h1.run pins s σ H D I) (h2.run pins s σ H D I)⟩
/-- x[fi] = f, x an owning name: a list or a dict -/
def sSetA (i : Nat) (f fi : Rho → Out (D × Rho)) : Rho → Out Fl := fun ρ => match ρ.getD i none with
  | some (.dct _) => (f ρ).bind fun p => (match p.2.getD i none with
    | some (.dct _) => (fi p.2).bind fun q => (match q.2.getD i none with
      | some (.dct ds) => (Out.of ((keyT q.1).bind fun k => if ds.length < sizeLine then some (putD ds k p.1) else none)).bind fun c => .ok (.nx (q.2.set i (some (.dct c))))
      | _ => .stuck)
    | _ => .stuck)
  | _ => sSetIx i f fi ρ
theorem vs_setA (hu : X.A.units + 64 < cLine) (i : Nat) {x : Str} {px ps : Pos} {ie : Expr} {fi : Rho → Out (D × Rho)} (hv : VE X W os e f os1 false) (hi : VE X W os1 ie fi os2 false) (ho : os.getD i false = true := by rfl) (ho1 : os1.getD i false = true := by rfl) (ho2 : os2.getD i false = true := by rfl) (hN : X.N[i]? = some x := by rfl)
    (hvis : Vis X.env.scope x := by first | exact Or.inl rfl | exact Or.inr (Or.inl rfl) | exact Or.inr (Or.inr rfl)) (hd : (x == ("__debug__" : Str)) = false := by decide) (hcd : (x == ("__classdict__" : Str)) = false := by decide)
    (ha : ∀ v, assign (.Subscript (.Name x px) ie ps) X.env v = (do
      let ov ← holding [v] (eval (.Name x px) X.env)
      let iv ← holding [v, ov] (eval ie X.env)
      standAt ps
      holding [v, ov, iv] (setItem ov iv v)
      release [v, ov, iv] []) := by intro _; rfl) (hs : swapsWithSole [.Subscript (.Name x px) ie ps] e pos.line X.env = pure false := by rfl) (hw : swappedStores [.Subscript (.Name x px) ie ps] e X.env = pure none := by rfl)
    (h1 : (assignEach [.Subscript (.Name x px) ie ps] X.env).map (·.2) = [assign (.Subscript (.Name x px) ie ps) X.env] := by rfl) (hs2 : swapsWith e (some (.Subscript (.Name x px) ie ps)) pos.line X.env = pure false := by rfl) :
    VS X W L os (.Assign [.Subscript (.Name x px) ie ps] e pos) (sSetA i f fi) os2 := by
  obtain ⟨t0, p0, k0⟩ : VS X W L os (.Assign [.Subscript (.Name x px) ie ps] e pos) (sSetIx i f fi) os2 := vs_setIx i hv hi ho1 ho2 hN hvis hd hcd ha hs hw h1
  obtain ⟨t, pt, kt⟩ := hv
  obtain ⟨ti, pi, ki⟩ := hi
  refine ⟨_, ps_or p0 (ps_dputN hu (pe_var hN hvis hd hcd) pi pt hs2), fun S σ H ρ Ds rel P => ?_⟩
  by_cases hdd : ∃ ds, ρ.getD i none = some (.dct ds)
  · obtain ⟨ds0, h0⟩ := hdd
    unfold sSetA at P
    rw [h0] at P
    refine .inr ?_
    refine kt S σ H ρ _ rel (PostS.seqE P fun d ρ1 v S1 H1 s1 r1 q1 P1 => ?_)
    dsimp only at P1
    cases hx : ρ1.getD i none with
    | none => rw [hx] at P1; exact P1.elim
    | some d1 =>
      rw [hx] at P1
      obtain ⟨u, eu, _⟩ := r1.own (getD_some hx) ho1
      refine ⟨u, eu, ?_⟩
      have P1 : PostS X W L S1 H1 os1 σ os2 Ds ((fi ρ1).bind fun q => (match q.2.getD i none with
        | some (.dct ds) => (Out.of ((keyT q.1).bind fun k => if ds.length < sizeLine then some (putD ds k d) else none)).bind fun c => .ok (.nx (q.2.set i (some (.dct c))))
        | _ => .stuck)) := by
        cases d1 <;> first | exact P1 | exact P1.elim
      refine ki S1 σ H1 ρ1 _ r1 (PostS.seqE P1 fun d2 ρ2 v2 S2 H2 s2 r2 q2 P2 => ?_)
      dsimp only at P2
      cases hx2 : ρ2.getD i none with
      | none => rw [hx2] at P2; exact P2.elim
      | some d3 =>
        rw [hx2] at P2
        obtain ⟨u', eu', hown⟩ := r2.own (getD_some hx2) ho2
        rw [eu] at eu'
        cases eu'
        obtain ⟨a, ea, na, oo, eh, bd⟩ := hown
        subst ea
        cases bd with
        | @dct x ds t z r =>
          have P2 : PostS X W L S2 H2 os2 σ os2 Ds ((Out.of ((keyT d2).bind fun k => if ds.length < sizeLine then some (putD ds k d) else none)).bind fun c => .ok (.nx (ρ2.set i (some (.dct c))))) := P2
          cases hk : keyT d2 with
          | none => rw [hk] at P2; exact P2.elim
          | some k =>
            rw [hk] at P2
            have q2 : At X.K S2 v2 d2 := q2
            obtain ⟨b, rfl, hb⟩ := at_key q2 hk
            by_cases hz : ds.length < sizeLine
            · have P2 : PostS X W L S2 H2 os2 σ os2 Ds ((Out.of (if ds.length < sizeLine then some (putD ds k d) else none)).bind fun c => .ok (.nx (ρ2.set i (some (.dct c))))) := P2
              rw [if_pos hz] at P2
              refine ⟨a, b, x, k, rfl, rfl, good_of eh t z r r2.sub, key_at q2 hk r2.sub, fun n hn => ?_⟩
              obtain ⟨t', r'⟩ := hn.tok ((t.xd r).store hb (At.mono s2.ext.s (show At X.K S1 v d from q1))) (store_kk t.kk hk)
              obtain ⟨r3, st3⟩ := turnX r2 ho2 eu na (by have := putD_len ds k d; omega) t' r'
              exact P2 σ S2 _ st3 FixOn.refl r3
            · have P2 : PostS X W L S2 H2 os2 σ os2 Ds ((Out.of (if ds.length < sizeLine then some (putD ds k d) else none)).bind fun c => .ok (.nx (ρ2.set i (some (.dct c))))) := P2
              rw [if_neg hz] at P2
              exact P2.elim
        | _ => exact P2.elim
  · refine .inl (k0 S σ H ρ Ds rel ?_)
    have e : sSetA i f fi ρ = sSetIx i f fi ρ := by
      unfold sSetA
      split
      · rename_i ds h; exact (hdd ⟨ds, h⟩).elim
      · rfl
    rw [← e]
    exact P

/-! ### for x in d -/
/-- the dict's object at a, walked by its keys -/
def Itkn (K : PySem.W.Frag) (a : Addr) (x : DX) : It :=
  ⟨fun i H => DGood K H a x ∧ i < x.xs.length, fun i H v H' => H' = H ∧ ∃ p, x.xs[i]? = some p ∧ v = .ref p.2.1, fun i H => DGood K H a x ∧ x.xs.length ≤ i⟩
theorem EnL.get {es : List DictEntry} {xs : XL} (h : EnL es xs) {i : Nat} {p : NestedKey × Addr × V} (e : xs[i]? = some p) : ∃ en, es[i]? = some en ∧ en.key = .ref p.2.1 ∧ RelV p.2.2 en.val := by
  induction h generalizing i with
  | nil => simp at e
  | @cons a b as bs h t ih =>
    cases i with
    | zero => cases (show some b = some p by simpa using e); exact ⟨a, rfl, h.2.1, h.2.2⟩
    | succ j => simpa using ih (i := j) (by simpa using e)
theorem turn_keysN {P : Program} {w : World} {K : PySem.W.Frag} {tg : Expr} {a : Addr} {x : DX} {es : Array DictEntry} {ep : Nat} (it : Addr) (hod : x.o.data = .dict es ep) : Turn P w K tg (Itkn K a x) [it] it (fun i h => h.IsKeyIter it a i x.xs.length ep) where
  mem := by simp
  obj := fun i h st b hb => by
    have e : b = it := by simpa using hb
    subst e
    obtain ⟨oi, e, c, dd⟩ := st
    exact ⟨oi, e, fun v z => by rw [dd] at z; cases z⟩
  keep := fun i h h' st k => st.at fun oi e => k it (by simp) oi e
  item := by
    intro X hP hw hK hc i pins s σ H E I hf st hg
    subst hP hw hK
    obtain ⟨g, hi⟩ := hg
    obtain ⟨f0, f1, f2, f3, f4, f5⟩ := hf it (by simp)
    obtain ⟨ys, _, _, _, ho⟩ := g.dict I
    obtain ⟨es', ep', hdt, en⟩ := g.ens
    obtain ⟨rfl, rfl⟩ := dict_ep hod hdt
    have hsz : es'.size = x.xs.length := by rw [← Paired.length en, Array.length_toList]
    obtain ⟨en', hen, hkey, _⟩ := en.get (List.getElem?_eq_getElem hi)
    refine next_key_item st ho hdt hsz (by rw [← Array.getElem?_toList]; exact hen) fun h' st' sb => ?_
    have I1 : Inv X pins σ H { s with heap := h' } := I.turned (t' := s.toks) (fun b ob hb e => (sb.2 b hb).trans e) f0 f1 f3 f4 f5
    obtain ⟨oi, e, c, dd⟩ := id st'
    exact ⟨en'.key, rfl, go_of (s := { s with heap := h' }) e c dd (by decide) ⟨.ref (x.xs[i]).2.1, H, I1, hkey, ⟨rfl, _, List.getElem?_eq_getElem hi, rfl⟩, st', fun b hb => (hf b hb).1⟩⟩
  done := by
    intro X hP hw hK hc i pins s σ H E I hf st hg
    subst hP hw hK
    obtain ⟨g, hi⟩ := hg
    obtain ⟨f0, f1, f2, f3, f4, f5⟩ := hf it (by simp)
    obtain ⟨ys, _, _, _, ho⟩ := g.dict I
    obtain ⟨es', ep', hdt, en⟩ := g.ens
    obtain ⟨rfl, rfl⟩ := dict_ep hod hdt
    have hsz : es'.size = x.xs.length := by rw [← Paired.length en, Array.length_toList]
    exact next_key_end (I.ok.hd hc) st ho hdt hsz hi fun h' eb => ⟨rfl, I.turned (t' := s.toks) (fun b ob hb e => eb b ob hb e) f0 f1 f3 f4 f5⟩
  self := fun A i s Q E st h => by
    refine wpAny_pyIter_slot st.typeIs F.slot_dict_keyiterator_iter (wpAny_call_entry F.slot_dict_keyiterator_iter st.typeIs F.entry_dict_keyiterator_iter ?_ (F.args_dict_keyiterator_iter_1 _))
    show wpAny _ _ (ret (.ref it)) _ _ s
    exact wpAny_pure ⟨_, rfl, "dict_keyiterator", _, st.typeIs, F.slot_dict_keyiterator_next.lookup, h⟩
def iKeysN (K : PySem.W.Frag) (td : TE) : TI := fun σ H R => td σ H fun v H1 => ∃ a x, v = .ref a ∧ DGood K H1 a x ∧ R (Itkn K a x) H1
theorem pi_keysN {tg : Expr} (he : PE X e td) : PI X tg e (iKeysN X.K td) := by
  refine ⟨fun pins s σ H R I h => ?_⟩
  refine thn (he.run pins s σ H _ I h) fun u s1 ⟨v, H1, I1, rx, a, x, ex, g, q⟩ => ?_
  subst ex
  obtain rfl : u = Value.ref a := rx
  obtain ⟨ys, _, _, _, ho⟩ := g.dict I1
  obtain ⟨es, ep, hdt, en⟩ := g.ens
  have hsz : es.size = x.xs.length := by rw [← Paired.length en, Array.length_toList]
  refine iter_keys g.sys ho g.ex hdt (pi_one (tk := s1.toks) I1 _ (turn_keysN _ hdt) ⟨_, Heap.get?_push_size _ rfl, rfl, ?_⟩ q)
  rw [hsz] <;> rfl
def itemsA : D → Option (List D)
  | .dct ds => some (ds.map fun p => keyB p.1)
  | d => itemsOf d
theorem itemsA_ne {d : D} (h : ∀ ds, d ≠ .dct ds) : itemsA d = itemsOf d := by
  cases d <;> first | rfl | exact (h _ rfl).elim
def iSeqA (f : Rho → Out (D × Rho)) : Rho → Out (List D × Rho) := fun ρ => (f ρ).bind fun p => (Out.of (itemsA p.1)).bind fun c => .ok (c, p.2)
theorem itAt_keys {K : PySem.W.Frag} {S : Hp} {a : Addr} {x : DX} {ds : List (NestedKey × D)} (h : S a = some (DT a x)) (t : DTok a x ds) (z : ds.length ≤ sizeLine) (r : AtL K S x.vs (dvs ds)) : ItAt K S (Itkn K a x) (ds.map fun p => keyB p.1) := by
  refine ⟨by rw [List.length_map]; exact z, fun i S' H' s1 s2 => ?_⟩
  have g : DGood K H' a x := good_of (s2 _ _ (s1 _ _ h)) t z (r.mono s1) s2
  refine ⟨fun hi => ⟨g, by rw [t.len]; rw [List.length_map] at hi; exact hi⟩, fun d hd => ?_⟩
  obtain ⟨r1, _⟩ := dct_split t r
  have hi : i < x.xs.length := by
    have := (List.getElem?_eq_some_iff.mp hd).1
    rw [List.length_map] at this
    rw [t.len]; exact this
  obtain ⟨v, ev, hat⟩ := r1.get hd
  refine ⟨⟨g, hi⟩, fun u H2 y => ?_⟩
  obtain ⟨rfl, p, ep, rfl⟩ := y
  rw [List.getElem?_map, ep] at ev
  cases ev
  exact ⟨S', Ext.refl s2, hat.mono s1⟩
theorem vi_seqA {tg : Expr} (he : VE X W os e f os1 false) : VI X W os tg e (iSeqA f) os1 := by
  obtain ⟨w0, p0, k0⟩ : VI X W os tg e (iSeq f) os1 := vi_seq he
  obtain ⟨t, pt, kt⟩ := he
  refine ⟨_, pi_or p0 (pi_keysN pt), fun S σ H ρ R rel P => ?_⟩
  by_cases hd : ∃ ds ρ1, f ρ = .ok (.dct ds, ρ1)
  · obtain ⟨ds, ρ1, hf⟩ := hd
    refine .inr (kt S σ H ρ _ rel ?_)
    unfold iSeqA at P
    rw [hf] at P ⊢
    intro v S1 H1 st1 rel1 q1
    cases (show At X.K S1 v (.dct ds) from q1) with
    | @dct a x _ h t z r => exact ⟨a, x, rfl, good_of (rel1.sub _ _ h) t z r rel1.sub, P _ S1 H1 st1 rel1 (itAt_keys h t z r)⟩
  · refine .inl (k0 S σ H ρ R rel ?_)
    have e : iSeqA f ρ = iSeq f ρ := by
      unfold iSeqA iSeq
      cases hf : f ρ with
      | ok z =>
        obtain ⟨d, ρ1⟩ := z
        show ((Out.of (itemsA d)).bind fun c => .ok (c, ρ1)) = (Out.of (itemsOf d)).bind fun c => .ok (c, ρ1)
        rw [itemsA_ne fun ds z => hd ⟨ds, ρ1, by rw [hf, z]⟩]
      | exc c fs => rfl
      | stuck => rfl
    rw [← e]
    exact P
end
end SW

set_option maxRecDepth 100000
/-! SW18: sorted, by a key too; of lists, tuples, dicts. -/
namespace SW
open PySem PySem.Spec PyProof.Rows L2
open PySem.W (EachIs dataLe AllAlike Sortable alike)

section
variable {X : Cx} {pins : List (Addr × Obj)} {σ : L2.St} {S H : Hp} {s : Shared} {E : Value → Shared → Prop}
theorem each_of_at (I : Inv X pins σ H s) (sub : Same S H) : ∀ {vs : List V} {ds : List D} {us : List Value} {ps : List PyData}, AtL X.K S vs ds → Vals vs us → ds.map D.py = ps.map some → EachIs (fun v p => ∃ as, Reads s.heap v p as) us ps
  | _, _, _, [], .nil, .nil, _ => .nil
  | _, _, _, _ :: _, .nil, .nil, e => by simp at e
  | _, _, _, [], .cons _ _, .cons _ _, e => by simp at e
  | _, _, _, p :: ps, .cons h t, .cons r rs, e => by
    rw [List.map_cons, List.map_cons] at e
    injection e with e1 e2
    exact .cons (Dp.reads I _ _ _ ((h.mono sub).dp e1) r) (each_of_at I sub t rs e2)
/-- a value that stands for a datum -/
def VAt (K : PySem.W.Frag) (S : Hp) (u : Value) (d : D) : Prop := ∃ v, RelV v u ∧ At K S v d
theorem each_at {K : PySem.W.Frag} {S : Hp} : ∀ {vs : List V} {ds : List D} {us : List Value}, AtL K S vs ds → Vals vs us → EachIs (VAt K S) us ds
  | _, _, _, .nil, .nil => .nil
  | _, _, _, .cons h t, .cons r rs => .cons ⟨_, r, h⟩ (each_at t rs)
theorem at_each {K : PySem.W.Frag} {S : Hp} {us : List Value} {ds : List D} (h : EachIs (VAt K S) us ds) : ∃ vs, Vals vs us ∧ AtL K S vs ds := by
  induction h with
  | nil => exact ⟨[], .nil, .nil⟩
  | cons q _ ih =>
    obtain ⟨v, r, a⟩ := q
    obtain ⟨vs, rs, as⟩ := ih
    exact ⟨v :: vs, .cons r rs, .cons a as⟩

/-- the key's call -/
theorem run_key {P : Value → Shared → Prop} {k : Nat} {fa : Addr} {fd : FuncData} {ps : List Str} {m : List D → Out (D × D)} (F : FnOk X.prog X.w X.K X.mg X.base (L2.CX X.prog X.w) k fa fd ps (spec X.K X.mg 1 none false m)) (hr : Room (k + 2) X.A) (hb : Binds X.K fd ps [])
    (I : Inv X pins σ H s) (sub : Same S H) {x : V} {u : Value} {d kd o : D} (hat : At X.K S x d) (rx : RelV x u) (hm : m [d] = .ok (kd, o))
    (fin : ∀ v S' H' u' s', Ext (fun _ => False) S H S' H' → At X.K S' v kd → RelV v u' → Inv X pins σ H' s' → Un (frs X.stack) [] H H' s.heap s'.heap → P u' s') : wpAny (model X.prog X.w) X.A.in1.in1 (call (.ref fa) [u]) P E s := by
  have r2 : Vals [x] [u] := .cons rx .nil
  have sp : spec X.K X.mg 1 none false m [x] H (fun v H' => ∃ S', Ext (fun _ => False) S H S' H' ∧ At X.K S' v kd) (fun _ _ _ => False) := by
    refine ⟨rfl, S, [d], rel_args (.cons hat .nil) sub, ?_⟩
    rw [hm]
    exact fun v S' H' x q _ => ⟨S', x.weak fun _ z => own_nil z, q⟩
  refine wpAny_call (codeAny_mono (F.run X.A.in1.in1 X.stack s H ⟨[u], []⟩ ([u] ++ []) [x] _ _ hr.in1.in1 I.env0.in1.in1 (hb s [u] I.kIn (by rw [← F.len _ _ _ _ sp]; rfl)) r2 sp) fun r s' hq => ?_)
  cases r with
  | error e =>
    obtain ⟨_, _, _, _, _, _, _, _, _, _, _, _, z⟩ := hq
    exact z.elim
  | ok fl =>
    cases fl with
    | ret u' =>
      obtain ⟨v, H', os, bare, un, hok, r, S', x, q⟩ := hq
      exact fin v S' H' u' s' x q r (I.call' os un hok bare fun b z => absurd z (by simp)) un
    | _ => exact hq.elim
end

/-! ### the keys of items -/
def keysOf (m : List D → Out (D × D)) : List D → Option (List (D × PyData))
  | [] => some []
  | d :: ds => match m [d] with
    | .ok (kd, _) => (match kd.py, keysOf m ds with
      | some p, some ps => some ((kd, p) :: ps)
      | _, _ => none)
    | _ => none
def sortableB (ps : List PyData) : Bool := ps.all (fun p => match p with | .tuple (_ :: _) => true | _ => false) || ps.all fun p => match p with | .none => false | .tuple _ => false | _ => true
def keysOk (ps : List PyData) : Bool := ps.all (fun p => ps.all fun q => alike p q) && sortableB ps && ps.all fun p => decide (p.depth ≤ 40)
theorem keysOk_iff {ps : List PyData} (h : keysOk ps = true) : AllAlike ps ∧ Sortable ps ∧ ∀ p ∈ ps, p.depth ≤ 40 := by
  unfold keysOk at h
  rw [Bool.and_eq_true, Bool.and_eq_true] at h
  obtain ⟨⟨h1, h2⟩, h3⟩ := h
  refine ⟨fun d hd d' hd' => List.all_eq_true.mp (List.all_eq_true.mp h1 d hd) d' hd', ?_, fun p hp => of_decide_eq_true (List.all_eq_true.mp h3 p hp)⟩
  unfold sortableB at h2
  rcases Bool.or_eq_true_iff.mp h2 with h | h
  · refine .inl fun d hd => ?_
    have q := List.all_eq_true.mp h d hd
    split at q
    · exact ⟨_, _, rfl⟩
    · cases q
  · refine .inr fun d hd => ?_
    have q := List.all_eq_true.mp h d hd
    split at q
    · cases q
    · cases q
    · rename_i h1 h2
      exact ⟨h1, fun xs => h2 xs⟩
/-- a datum's key -/
def keyFn (m : List D → Out (D × D)) (d : D) : PyData := match m [d] with
  | .ok (kd, _) => (match kd.py with | some p => p | none => .none)
  | _ => .none
theorem keysOf_some {m : List D → Out (D × D)} : ∀ {ds : List D} {ks : List (D × PyData)}, keysOf m ds = some ks → ks.length = ds.length ∧ ks.map (·.2) = ds.map (keyFn m) ∧ ∀ (j : Nat) (d : D), ds[j]? = some d → ∃ kd o p, m [d] = .ok (kd, o) ∧ kd.py = some p ∧ ks[j]? = some (kd, p)
  | [], _, e => by cases e; exact ⟨rfl, rfl, fun j d h => by simp at h⟩
  | d :: ds, ks, e => by
    unfold keysOf at e
    cases hm : m [d] with
    | ok z =>
      obtain ⟨kd, o⟩ := z
      rw [hm] at e
      dsimp only at e
      cases hp : kd.py with
      | none => rw [hp] at e; cases e
      | some p =>
        cases hk : keysOf m ds with
        | none => rw [hp, hk] at e; cases e
        | some ps =>
          rw [hp, hk] at e
          cases e
          obtain ⟨h1, h2, h3⟩ := keysOf_some hk
          refine ⟨by rw [List.length_cons, List.length_cons, h1], ?_, fun j d' hd => ?_⟩
          · rw [List.map_cons, List.map_cons, h2]
            congr 1
            unfold keyFn
            rw [hm]
            dsimp only
            rw [hp]
          · cases j with
            | zero => cases (show some d = some d' by simpa using hd); exact ⟨kd, o, p, hm, hp, rfl⟩
            | succ j => simpa using h3 j d' (by simpa using hd)
    | exc c fs => rw [hm] at e; cases e
    | stuck => rw [hm] at e; cases e
/-- sorted by a key -/
def sortK (m : List D → Out (D × D)) (ds : List D) : Option (List D) := match keysOf m ds with
  | some ks => if keysOk (ks.map (·.2)) = true then some (ds.mergeSort (dataLe false (keyFn m))) else none
  | none => none

section
variable {X : Cx} {pins : List (Addr × Obj)} {σ : L2.St} {S H : Hp} {s : Shared} {E : Value → Shared → Prop} {vsV : List V} {vs : List Value} {ds : List D} {ks : List (D × PyData)} {a kS : Addr} {e1 : Nat}
  {k : Nat} {fa : Addr} {fd : FuncData} {ps : List Str} {m : List D → Out (D × D)}
/-- where the sort leaves off -/
def SortEnd (X : Cx) (pins : List (Addr × Obj)) (σ : L2.St) (S H : Hp) (a : Addr) (out : List D) (s' : Shared) : Prop := ∃ S' H' ys, Inv X pins σ (upd H' a (.lst ys)) s' ∧ Ext (fun _ => False) S H S' H' ∧ H' a = none ∧ AtL X.K S' ys out
theorem loop_keys (F : FnOk X.prog X.w X.K X.mg X.base (L2.CX X.prog X.w) k fa fd ps (spec X.K X.mg 1 none false m)) (hr : Room (k + 2) X.A) (hb : Binds X.K fd ps []) (hks : keysOf m ds = some ks) (hok : keysOk (ks.map (·.2)) = true)
    (I : Inv X pins σ H s) (sub : Same S H) (hat : AtL X.K S vsV ds) (rv : Vals vsV vs) (hz : ds.length ≤ sizeLine) (fk : FpOk X pins H kS) (fp : FpOk X pins H a) (hka : kS ≠ a)
    (nk : s.heap.get? kS = some (seqObj "list" #[] 0)) (na : s.heap.get? a = some (seqObj "list" #[] e1)) :
    wpAny (model X.prog X.w) X.A.in1.in1 (ksk_rest a (.ref fa) false vs.toArray e1 (.ref kS)) (fun fn s' => fn = .done (.ret .none) ∧ SortEnd X pins σ S H a (ds.mergeSort (dataLe false (keyFn m))) s') E s := by
  obtain ⟨lk, mk, gk⟩ := keysOf_some hks
  obtain ⟨hal, hso, hdp⟩ := keysOk_iff hok
  have lv : vs.length = ds.length := by rw [← rv.length, hat.length]
  have upF : ∀ {b : Addr} {H' : Hp}, FpOk X pins H b → H' b = none → FpOk X pins H' b := fun {b H'} f n => ⟨n, f.2⟩
  unfold ksk_rest
  refine wpAny_bind (wpAny_rule ?_)
  first
    | rw [List.forIn_toArray]
    | rw [← Array.forIn_toList]
  refine wpAny_bind (PyProof.Rows.ksk_fold (fun j s' => ∃ S' H' kA c kV, Inv X pins σ H' s' ∧ Ext (fun _ => False) S H S' H' ∧ s'.heap.get? kS = some (seqObj "list" kA c) ∧ s'.heap.get? a = some (seqObj "list" #[] e1) ∧ H' kS = none ∧ H' a = none ∧ Vals kV kA.toList ∧ AtL X.K S' kV ((ks.take j).map (·.1))) vs 0 s
    ⟨S, H, #[], 0, [], I, Ext.refl sub, nk, na, fk.1, fp.1, .nil, by rw [List.take_zero]; exact .nil⟩ ?turn ?last)
  case turn =>
    rintro j u s' hu ⟨S', H', kA, c, kV, I', x', nk', na', nkH, naH, rk, ak⟩
    rw [Nat.zero_add] at ak ⊢
    have hj : j < ds.length := by
      have q := (List.getElem?_eq_some_iff.mp hu).1
      omega
    obtain ⟨kd, o, p, hm, hp, hkj⟩ := gk j _ (List.getElem?_eq_getElem hj)
    obtain ⟨v, ev, hv⟩ := hat.get (List.getElem?_eq_getElem hj)
    obtain ⟨u', eu', ru⟩ := rv.get ev
    rw [hu] at eu'
    cases eu'
    have hsz : kA.size ≤ ds.length := by
      have q1 : kV.length = kA.size := (L2.Vals.length rk).trans Array.length_toList
      have q2 : kV.length = min j ks.length := (AtL.length ak).trans (by rw [List.length_map, List.length_take])
      have q3 := Nat.min_le_right j ks.length
      omega
    refine wpAny_bind (wpAny_attempt (wpAny_mono (run_key (E := fun _ _ => False) F hr hb I' x'.sh (hv.mono x'.s) ru hm fun v2 S2 H2 u2 s2 x2 q2 r2 I2 un => (show ∃ S2 H2 v2, Inv X pins σ H2 s2 ∧ Ext (fun _ => False) S' H' S2 H2 ∧ At X.K S2 v2 kd ∧ RelV v2 u2 ∧ Un (frs X.stack) [] H' H2 s'.heap s2.heap from ⟨S2, H2, v2, I2, x2, q2, r2, un⟩)) (fun u2 s2 q => ?_) fun _ _ z => z.elim))
    obtain ⟨S2, H2, v2, I2, x2, q2, r2, un⟩ := q
    dsimp only
    have fr : ∀ {b : Addr}, FpOk X pins H b → b ∉ frs X.stack := fun {b} f z => by
      rcases List.mem_cons.mp (I2.stkSub b z) with z | z
      · exact f.2.1 z
      · exact f.2.2.1 z
    have nk2 := un.keep kS _ nk' nkH (fr fk) (by simp)
    have na2 := un.keep a _ na' naH (fr fp) (by simp)
    have nkH2 := un.free kS _ nk' nkH (by simp)
    have naH2 := un.free a _ na' naH (by simp)
    obtain ⟨c3, hc3⟩ : ∃ c3, (s2.heap.update kS (Obj.mapSeq (·.push u2))).get? kS = some (seqObj "list" (kA.push u2) c3) := ⟨_, get?_update_seq nk2 (·.push u2)⟩
    have sb := Heap.SameBut.update s2.heap kS (Obj.mapSeq (·.push u2))
    refine wpAny_bind (listUpdate_at nk2 rfl ?_ (Nat.le_trans hsz hz) (by rw [Array.size_push]; omega))
    have fk2 := upF fk nkH2
    refine wpAny_pure ⟨rfl, S2, H2, kA.push u2, c3, kV ++ [v2], I2.turned (t' := s2.toks) (fun b ob hb e => (sb.2 b hb).trans e) fk2.1 fk2.2.1 fk2.2.2.2.1 fk2.2.2.2.2.1 fk2.2.2.2.2.2, x'.trans x2 fun c q => .inl q, hc3, (sb.2 a (Ne.symm hka)).trans na2, nkH2, naH2, ?_, ?_⟩
    · rw [Array.toList_push]; exact Vals.append rk (.cons r2 .nil)
    · rw [List.take_add_one, hkj]
      show AtL X.K S2 (kV ++ [v2]) ((ks.take j ++ [(kd, p)]).map (·.1))
      rw [List.map_append]
      exact (ak.mono x2.s).append (.cons q2 .nil)
  case last =>
    rintro s' ⟨S', H', kA, c, kV, I', x', nk', na', nkH, naH, rk, ak⟩
    rw [Nat.zero_add, lv, ← lk, List.take_length] at ak
    have each : EachIs (fun v p => ∃ as, Reads s'.heap v p as) kA.toList (ds.map (keyFn m)) := by
      rw [← mk]
      refine each_of_at I' x'.sh ak rk ?_
      refine List.ext_getElem? fun j => ?_
      simp only [List.getElem?_map]
      cases hk : ks[j]? with
      | none => rfl
      | some y =>
        have hjl : j < ds.length := by
          have := (List.getElem?_eq_some_iff.mp hk).1
          omega
        obtain ⟨kd, o, p, _, hp, hkj⟩ := gk j _ (List.getElem?_eq_getElem hjl)
        rw [hk] at hkj
        cases hkj
        show some kd.py = some (some p)
        rw [hp]
    have lA : kA.size = vs.length := by
      have q := each.length
      rw [Array.length_toList, List.length_map] at q
      omega
    rw [mk] at hal hso hdp
    refine wpAny_bind (listItems_at nk' rfl ?_)
    have hu := hr.un
    refine PySem.W.keyH_end (κ := PySem.W.dataKind s'.heap (ds.map (keyFn m))) (h₁ := PySem.W.hideAll s'.heap [kS]) (fun b o _ e => PySem.W.of_hideAll [kS] e) (PySem.W.hideAll_none [kS] List.mem_cons_self) nk' na' hka
      (PySem.W.SortsAt.data (s := s') each hal hso fun d hd => by have := hdp d hd; show X.A.units + 1 + 1 + d.depth < cLine; omega) lA (by rw [lv]; exact hz) fun h' tk c' kp na3 => ⟨rfl, ?_⟩
    have outE : EachIs (VAt X.K S') (PySem.W.sortVals (PySem.W.dataKind s'.heap (ds.map (keyFn m))) false kA.toList vs) (ds.mergeSort (dataLe false (keyFn m))) :=
      PySem.W.keyedOut_each (keyFn m) ⟨s'.heap, kA.toList, hal, rfl, each⟩ (each_at (hat.mono x'.s) rv)
    obtain ⟨ys, ry, ay⟩ := at_each outE
    have I4 : Inv X pins σ H' { s' with heap := h', toks := tk } := I'.turnedL (ch := [a, kS]) (t' := tk) (fun b ob hb e => kp b ob (fun z => hb (by simp [z])) (PySem.W.hideAll_get [kS] e fun z => hb (by simp at z; simp [z]))) fun b hb => by
      rcases List.mem_cons.mp hb with z | z
      · rw [z]; exact upF fp naH
      · rw [List.mem_singleton.mp z]; exact upF fk nkH
    have lz : ys.length ≤ sizeLine := by rw [ay.length, List.length_mergeSort]; exact hz
    have I5 : Inv X pins σ (upd H' a (.lst ys)) { s' with heap := h', toks := tk } := Inv.take (s := { s' with heap := h', toks := tk }) (h' := h') (t' := tk) I4 (fun b ob _ e => e) (upF fp naH) ⟨lz, _, c', ry, na3⟩
    exact ⟨S', H', ys, I5, x', naH, ay⟩
end
end SW

set_option maxRecDepth 100000
/-! SW19: sorted as a call; what is collected of a list, a tuple, a dict. -/
namespace SW
open PySem PySem.Spec PyProof.Rows L2
open PySem.W (EachIs dataLe AllAlike Sortable alike)

/-- the items of what x is -/
def ColAt (K : PySem.W.Frag) (H : Hp) (x : V) (vs : List V) : Prop :=
  (∃ a, x = .ref a ∧ SqL K H a vs) ∨ (∃ a, x = .ref a ∧ SqT K H a vs) ∨ ∃ a dx, x = .ref a ∧ DGood K H a dx ∧ vs = dx.xs.map fun p => V.ref p.2.1
theorem col_at {K : PySem.W.Frag} {S H : Hp} {v : V} {d : D} {ds : List D} (h : At K S v d) (sub : Same S H) (e : itemsA d = some ds) : ∃ vs, ColAt K H v vs ∧ AtL K S vs ds ∧ ds.length ≤ sizeLine := by
  cases h with
  | lst h z r => cases e; exact ⟨_, .inl ⟨_, rfl, .of (sub _ _ h)⟩, r, z⟩
  | tup h z r => cases e; exact ⟨_, .inr (.inl ⟨_, rfl, sqT_mono sub h⟩), r, z⟩
  | scr h z => cases e; exact ⟨_, .inl ⟨_, rfl, sub.seq h⟩, AtL.ints _, by rw [List.length_map]; exact z⟩
  | dct h t z r => cases e; exact ⟨_, .inr (.inr ⟨_, _, rfl, good_of (sub _ _ h) t z r sub, rfl⟩), (dct_split t r).1, by rw [List.length_map]; exact z⟩
  | _ => cases e
section
variable {prog : Program} {w : World} {A : Around} {E : Value → Shared → Prop} {s : Shared}
theorem col_tuple {l : Addr} {vs : List Value} {Q : List Value → Shared → Prop} (hl : IsTup s.heap l vs.toArray) (hsz : vs.length ≤ sizeLine)
    (h : ∀ h', (∀ b o, s.heap.get? b = some o → h'.get? b = some o) → Q vs { s with heap := h' }) : wpAny (model prog w) A (collect (.ref l)) Q E s := by
  obtain ⟨o, ho, hc, n, hd⟩ := id hl
  unfold collect
  refine wpAny_bind (wpAny_runValue (codeAny_builtin entry_proto_collect' ?_))
  show wpAny _ _ (do again (.builtin "list.__iadd__" ⟨[← newList [], .ref l], []⟩)) _ _ s
  refine wpAny_bind (wpAny_newList (wpAny_pure ⟨Code.quiet_builtin _ (by decide +kernel), codeAny_builtin entry_list_iadd' ?_⟩))
  have up : ∀ b q, s.heap.get? b = some q → (s.heap.push (seqObj "list" #[] 0)).get? b = some q := fun b q e => Heap.get?_push_of_some _ e
  have nw : (s.heap.push (seqObj "list" #[] 0)).get? s.heap.objs.size = some (seqObj "list" #[] 0) := Heap.get?_push_size _ rfl
  show wpAny _ _ (Builtin.List.listExtendWith (.ref s.heap.objs.size) (.ref l) (.ref s.heap.objs.size)) _ _ { s with heap := s.heap.push (seqObj "list" #[] 0) }
  unfold Builtin.List.listExtendWith
  refine wpAny_bind (wpAny_typeOf (T := "tuple") ⟨o, up _ _ ho, hc⟩ ?_)
  rw [if_pos (by rw [show (Value.type "tuple" == Value.type "tuple") = true from by decide, Bool.or_true])]
  refine wpAny_bind (listItems_at (up _ _ ho) hd ?_)
  refine wpAny_bind (listItems_at nw rfl ?_)
  rw [if_neg (by simp)]
  refine wpAny_bind (listUpdate_at nw rfl ?_ (Nat.zero_le _) (by show (#[] ++ vs.toArray).size ≤ sizeLine + 1; simp only [Array.size_append, List.size_toArray, List.length_nil]; omega))
  refine wpAny_pure ?_
  show wpAny (model prog w) A (do
      let o ← load s.heap.objs.size
      match o.data with
      | .seq xs _ => pure xs.toList
      | _ => unsupported "internal:collect") Q E { s with heap := (s.heap.push (seqObj "list" #[] 0)).update s.heap.objs.size (Obj.mapSeq (· ++ vs.toArray)) }
  refine wpAny_bind (wpAny_load (get?_update_seq nw _) ?_)
  show wpAny _ _ (pure ((#[] : Array Value) ++ vs.toArray).toList) Q E _
  have e : ((#[] : Array Value) ++ vs.toArray).toList = vs := by simp
  rw [e]
  refine wpAny_pure (h _ fun b q eb => ?_)
  exact ((Heap.SameBut.update ..).2 b (Nat.ne_of_lt (Heap.lt_size eb))).trans (up b q eb)
end
section
variable {X : Cx} {pins : List (Addr × Obj)} {σ : L2.St} {S H : Hp} {s : Shared} {E : Value → Shared → Prop}
theorem col_run {A : Around} (I : Inv X pins σ H s) (hh : A.handled = none) {x : V} {vs : List V} {u : Value} (c : ColAt X.K H x vs) (rx : RelV x u) :
    wpAny (model X.prog X.w) A (collect u) (fun us s1 => Inv X pins σ H s1 ∧ Vals vs us ∧ us.length ≤ sizeLine) E s := by
  rcases c with ⟨a, rfl, h⟩ | ⟨a, rfl, h⟩ | ⟨a, dx, rfl, g, rfl⟩
  · obtain rfl : u = Value.ref a := rx
    obtain ⟨its, rv, p, z⟩ := I.list h
    refine collect_list p.isList ⟨I.kept (t' := s.toks) fun b q e => ?_, rv, by rw [← L2.Vals.length rv]; exact z⟩ (by rw [← L2.Vals.length rv]; exact z)
    exact ((Heap.SameBut.update ..).2 b (Nat.ne_of_lt (Heap.lt_size e))).trans (Heap.get?_push_of_some _ e)
  · obtain rfl : u = Value.ref a := rx
    obtain ⟨its, rv, p, z⟩ := I.tuple h
    have z' : its.length ≤ sizeLine := by rw [← L2.Vals.length rv]; exact z
    exact col_tuple p z' fun h' k => ⟨I.kept (t' := s.toks) k, rv, z'⟩
  · obtain rfl : u = Value.ref a := rx
    obtain ⟨ys, _, _, _, ho⟩ := g.dict I
    obtain ⟨es, ep, hdt, en⟩ := g.ens
    have hsz : es.size = dx.xs.length := by rw [← Paired.length en, Array.length_toList]
    have z : es.size ≤ sizeLine := by rw [hsz]; exact g.len
    refine PySem.W.kdu_collect (PySem.KdlSrc.rawDict (es := es) (ep := ep) g.sys) hh ⟨dx.o, ho, g.ex, hdt⟩ z fun h' tk acc k hacc => ⟨I.kept k, ?_, ?_⟩
    · have pr : ∀ {l : List Value} {xs : XL}, l.length = xs.length → (∀ (j : Nat) (v : Value), l[j]? = some v → ∃ p : NestedKey × Addr × V, xs[j]? = some p ∧ v = .ref p.2.1) → Vals (xs.map fun p => V.ref p.2.1) l := by
        intro l
        induction l with
        | nil => intro xs e _; cases xs with | nil => exact .nil | cons _ _ => simp at e
        | cons v l ih =>
          intro xs e h
          cases xs with
          | nil => simp at e
          | cons p xs =>
            obtain ⟨p', e1, e2⟩ := h 0 v rfl
            cases (show some p = some p' by simpa using e1)
            exact .cons e2 (ih (by simpa using e) fun j v' hv => by simpa using h (j + 1) v' (by simpa using hv))
      refine pr (by rw [Array.length_toList, hacc.1, hsz]) fun j v hv => ?_
      have hv' : acc[j]? = some v := by rw [← Array.getElem?_toList]; exact hv
      obtain ⟨hi, e⟩ := hacc.2 j v hv'
      obtain ⟨en', hen, hk, _⟩ := en.get (List.getElem?_eq_getElem (by omega : j < dx.xs.length))
      rw [Array.getElem?_toList, Array.getElem?_eq_getElem hi] at hen
      cases hen
      exact ⟨_, List.getElem?_eq_getElem (by omega), by rw [e, hk]⟩
    · rw [Array.length_toList, hacc.1]; exact z
end

/-- sorted(e, key=f), sorted(e) -/
def rSortK (X : Cx) (fa : Addr) (m : List D → Out (D × D)) : List V → List V → Hp → VK → Prop := fun vs zs H Q => ∃ x S d ds out, vs = [x] ∧ zs = [.ref fa] ∧ Same S H ∧ At X.K S x d ∧ itemsA d = some ds ∧ sortK m ds = some out ∧
  ∀ S' H' p ys, Ext (fun _ => False) S H S' H' → H' p = none → AtL X.K S' ys out → Q (.ref p) (upd H' p (.lst ys))
section
variable {X : Cx} {k : Nat} {fa : Addr} {fd : FuncData} {ps : List Str} {m : List D → Out (D × D)}
theorem sortK_some {ds out : List D} (h : sortK m ds = some out) : ∃ ks, keysOf m ds = some ks ∧ keysOk (ks.map (·.2)) = true ∧ out = ds.mergeSort (dataLe false (keyFn m)) := by
  unfold sortK at h
  split at h
  · rename_i ks hk
    split at h
    · rename_i ho
      cases h
      exact ⟨ks, hk, ho, rfl⟩
    · cases h
  · cases h
theorem call_sortK (hcalm : X.calm = true) (F : FnOk X.prog X.w X.K X.mg X.base (L2.CX X.prog X.w) k fa fd ps (spec X.K X.mg 1 none false m)) (hr : Room (k + 2) X.A) (hb : Binds X.K fd ps []) : CallRK X (.builtin "sorted") [Str.ofString "key"] (rSortK X fa m) := by
  intro pins s σ H xs zs us ws Q I r rz h
  obtain ⟨x, S, d, ds, out, rfl, rfl, sub, hat, hit, hso, q⟩ := h
  obtain ⟨u, rfl, rx⟩ := vals1 r
  obtain ⟨w1, rfl, rw1⟩ := vals1 rz
  obtain rfl : w1 = Value.ref fa := rw1
  obtain ⟨ks, hks, hok, rfl⟩ := sortK_some hso
  obtain ⟨vs, hc, hvs, hz⟩ := col_at hat sub hit
  have lvs := hvs.length
  refine call_function_entry_kw kind_sorted plain_sorted entry_sorted (PyProof.Rows.ksk_s1 _ _) ?_
  unfold Builtin.«sorted»
  refine wpAny_bind (m := checkCount "sorted" 1 1 _) (wpAny_pure (?_))
  refine wpAny_bind (wpAny_mono (col_run (A := X.A.in1) (E := X.xe) I hr.hd hc rx) (fun its s1 q1 => ?_) fun _ _ z => z)
  obtain ⟨I1, rv, zl⟩ := q1
  refine wpAny_bind (wpAny_newList ?_ zl)
  have nw : (s1.heap.push (seqObj "list" its.toArray 0)).get? s1.heap.objs.size = some (seqObj "list" its.toArray 0) := Heap.get?_push_size _ rfl
  have hn := I1.hok.fresh (Nat.le_refl s1.heap.objs.size)
  have I2 : Inv X pins σ H { s1 with heap := s1.heap.push (seqObj "list" its.toArray 0) } := I1.kept (t' := s1.toks) fun b o e => Heap.get?_push_of_some _ e
  have fp := I1.fpOk (Nat.le_refl s1.heap.objs.size) hn
  refine wpAny_bind (wpAny_holding (wpAny_call_entry_kw slot_list_sort ⟨_, nw, rfl⟩ entry_list_sort ?sort (PyProof.Rows.ksk_l1 _ _)))
  case sort =>
    show wpAny (model X.prog X.w) X.A.in1.in1 (Builtin.«list.sort» ⟨[.ref s1.heap.objs.size], [(Str.ofString "key", .ref fa)]⟩) _ _ { s1 with heap := s1.heap.push (seqObj "list" its.toArray 0) }
    rw [PyProof.Rows.ksk_t1]
    unfold PyProof.Rows.ksk_tree
    refine wpAny_bind (listItems_at nw rfl ?_)
    obtain ⟨e1, ne⟩ : ∃ e1, ((s1.heap.push (seqObj "list" its.toArray 0)).update s1.heap.objs.size (Obj.mapSeq fun _ => (#[] : Array Value))).get? s1.heap.objs.size = some (seqObj "list" #[] e1) := ⟨_, get?_update_seq nw fun _ => #[]⟩
    refine wpAny_bind (listUpdate_at nw rfl ?_ (by rw [List.size_toArray]; exact zl) (Nat.zero_le _))
    have sb := Heap.SameBut.update (s1.heap.push (seqObj "list" its.toArray 0)) s1.heap.objs.size (Obj.mapSeq fun _ => (#[] : Array Value))
    have I3 : Inv X pins σ H { s1 with heap := (s1.heap.push (seqObj "list" its.toArray 0)).update s1.heap.objs.size (Obj.mapSeq fun _ => (#[] : Array Value)) } :=
      I2.turned (t' := s1.toks) (fun b ob hb e => (sb.2 b hb).trans e) fp.1 fp.2.1 fp.2.2.2.1 fp.2.2.2.2.1 fp.2.2.2.2.2
    refine wpAny_bind (seqEpoch_at ne rfl ?_)
    refine wpAny_bind (wpAny_newTuple ?_ zl)
    refine wpAny_bind (wpAny_newList ?_ (Nat.zero_le _))
    refine wpAny_holding ?_
    generalize hg : (s1.heap.push (seqObj "list" its.toArray 0)).update s1.heap.objs.size (Obj.mapSeq fun _ => (#[] : Array Value)) = g at ne I3
    have hgs : g.objs.size = s1.heap.objs.size + 1 := by rw [← hg, Heap.size_update, Heap.size_push]
    have I4 : Inv X pins σ H { s1 with heap := (g.push (seqObj "tuple" its.toArray 0)).push (seqObj "list" #[] 0) } :=
      I3.kept (t' := s1.toks) fun b o e => Heap.get?_push_of_some _ (Heap.get?_push_of_some _ e)
    have htl : s1.heap.objs.size < (g.push (seqObj "tuple" its.toArray 0)).objs.size := by rw [Heap.size_push, hgs]; omega
    have hts : (g.push (seqObj "tuple" its.toArray 0)).objs.size = s1.heap.objs.size + 2 := by rw [Heap.size_push, hgs]
    have nk : ((g.push (seqObj "tuple" its.toArray 0)).push (seqObj "list" #[] 0)).get? (g.push (seqObj "tuple" its.toArray 0)).objs.size = some (seqObj "list" #[] 0) := Heap.get?_push_size _ rfl
    have fk : FpOk X pins H (g.push (seqObj "tuple" its.toArray 0)).objs.size := I1.fpOk (Nat.le_of_lt htl) (I1.hok.fresh (Nat.le_of_lt htl))
    refine wpAny_mono (loop_keys (E := X.xe) F hr hb hks hok I4 sub hvs rv hz fk fp (Nat.ne_of_gt htl) nk (Heap.get?_push_of_some _ (Heap.get?_push_of_some _ ne))) (fun fn s' hf => ?_) fun _ _ z => z
    obtain ⟨rfl, S', H', ys, I5, x5, n5, a5⟩ := hf
    exact ⟨_, rfl, wpAny_pure ⟨_, rfl, .ref s1.heap.objs.size, _, I5, rfl, q S' H' _ ys x5 n5 a5⟩⟩
end
section
variable {X : Cx} {W : WX} {os os1 : Os} {e : Expr} {f : Rho → Out (D × Rho)} {pos p pk kp : Pos} {k : Nat} {fa : Addr} {fd : FuncData} {ps : List Str} {m : List D → Out (D × D)}
def eSortK (m : List D → Out (D × D)) (f : Rho → Out (D × Rho)) : Rho → Out (D × Rho) := fun ρ => (f ρ).bind fun p => (Out.of ((itemsA p.1).bind (sortK m))).bind fun c => .ok (.lst c, p.2)
theorem ve_sortK {y : Str} (F : FnOk X.prog X.w X.K X.mg X.base (L2.CX X.prog X.w) k fa fd ps (spec X.K X.mg 1 none false m)) (hr : Room (k + 2) X.A) (hmf : X.mg y = some (.ref fa)) (hb : Binds X.K fd ps []) (ha : VE X W os e f os1 false) (hm : X.mg "sorted" = none) (hle : Le os1 os := by rfl) (hc : X.calm = true := by rfl)
    (hg : Gl X "sorted" := by rfl) (hgy : Gl X y := by rfl) (hdb : (y == ("__debug__" : Str)) = false := by decide) (he1 : starEach [e] X.env = (false, eval e X.env) :: starEach [] X.env := by rfl)
    (he : backTo pos (starEach [e] X.env) = (false, eval e X.env) :: backTo pos (starEach [] X.env) := by rfl) (hpl : (backTo pos (starEach [e] X.env)).any (·.1) = false := by rfl)
    (hall : (backToKw pos (keywordEach [⟨some "key", .Name y pk, kp⟩] X.env)).all (·.1.isSome) = true := by rfl) (hnone : (backToKw pos (keywordEach [⟨some "key", .Name y pk, kp⟩] X.env)).any (·.1.isNone) = false := by rfl) (hks : (backToKw pos (keywordEach [⟨some "key", .Name y pk, kp⟩] X.env)).filterMap (·.1) = [Str.ofString "key"] := by rfl) :
    VE X W os (.Call (.Name "sorted" p) [e] [⟨some "key", .Name y pk, kp⟩] pos) (eSortK m f) os1 true := by
  obtain ⟨ta, pa, ka⟩ := ha
  refine ⟨_, pe_callBK (call_sortK hc F hr hb) hg hm (by decide +kernel) (pa_cons pa pa_nil he1) (pk_cons (pe_glob (v := .ref fa) hgy hmf rfl hdb) pk_nil) (by decide) (by decide) he hpl hall hnone hks, fun S σ H ρ Q rel P => ?_⟩
  refine ka S σ H ρ _ rel (Post.seq P (fun z => z) (fun c fs p => p) fun d ρ1 v S1 H1 st1 rel1 q1 P1 => ?_)
  have P1 := P1.step RV.ok st1
  dsimp only at P1
  cases hi : itemsA d with
  | none => rw [hi] at P1; exact P1.elim
  | some ds =>
    rw [hi] at P1
    cases hs : sortK m ds with
    | none =>
      have P1 : Post X W S1 H1 os1 σ os1 (RV X.K true) Q ((Out.of (sortK m ds)).bind fun c => .ok (.lst c, ρ1)) := P1
      rw [hs] at P1
      exact P1.elim
    | some out =>
      have P1 : Post X W S1 H1 os1 σ os1 (RV X.K true) Q ((Out.of (sortK m ds)).bind fun c => .ok (.lst c, ρ1)) := P1
      rw [hs] at P1
      refine ⟨v, S1, d, ds, out, rfl, rfl, rel1.sub, q1, hi, hs, fun S' H' l ys x nl hys => ?_⟩
      have xx := Ext.newO (O := fun _ => False) (o := .lst ys) x.sh nl
      obtain ⟨ks, _, _, rfl⟩ := sortK_some hs
      have hz : (ds.mergeSort (dataLe false (keyFn m))).length ≤ sizeLine := by
        rw [List.length_mergeSort]
        obtain ⟨_, _, _, hz⟩ := col_at (show At X.K S1 v d from q1) rel1.sub hi
        exact hz
      have x2 := x.trans xx fun c q => .inl q
      exact P1 (.ref l) S' (upd H' l (.lst ys)) (Stp.of_ext x2) (rel1.ext0 x2) ⟨.mkL (x.sh.free nl) upd_same hz hys, fun a e => by cases e; exact x.there _ nl⟩
end
end SW

set_option maxRecDepth 100000
/-! SW20: max(.., default=..), sorted(..), dict(..) of pairs. -/
namespace SW
open PySem PySem.Spec PyProof.Rows L2
open PySem.W (EachIs dataLe AllAlike Sortable alike)

/-! ### max(xs, default=z), xs a list or a tuple of whole numbers -/
def intsIn : D → Option (List Int)
  | .lst ds => intsOf ds
  | .tup ds => intsOf ds
  | _ => none
def foldM (mx : Bool) (n : Int) (ns : List Int) : Int := ns.foldl (fun a b => if mx = true then max a b else min a b) n
def mmDef (mx : Bool) (d z : D) : Option D := match intsIn d with
  | some [] => some z
  | some (n :: ns) => some (.int (foldM mx n ns))
  | none => none
section
variable {X : Cx}
end
section
variable {X : Cx} {W : WX} {os os1 os2 : Os} {e e2 : Expr} {f f2 : Rho → Out (D × Rho)} {pos p kp : Pos}
def eMM (mx : Bool) (f f2 : Rho → Out (D × Rho)) : Rho → Out (D × Rho) := fun ρ => (f ρ).bind fun p => (f2 p.2).bind fun q => (Out.of (mmDef mx p.1 q.1)).bind fun c => .ok (c, q.2)
end
end SW

set_option maxRecDepth 100000
/-! SW21: equations for dicts in mirrors; words and fractions as terms of sums. -/
namespace SW
open PySem PySem.Spec PyProof.Rows L2
theorem ixA_lst {l : List D} {k : D} : ixA (.lst l) k = ixD (.lst l) k := rfl
theorem ixA_tup {l : List D} {k : D} : ixA (.tup l) k = ixD (.tup l) k := rfl
theorem ixA_scr {l : List Int} {k : D} : ixA (.scr l) k = ixD (.scr l) k := rfl
/-! words as keys -/
def wk (w : List Int) : NestedKey := .tup (w.map .num)
theorem keyDs_ints : ∀ w : List Int, keyDs (w.map D.int) = some (w.map NestedKey.num)
  | [] => rfl
  | i :: w => by
    show (match keyD (.int i), keyDs (w.map D.int) with
      | some k, some ks => some (k :: ks)
      | _, _ => none) = _
    rw [keyDs_ints w]
    rfl
theorem depth_nums : ∀ w : List Int, NestedKey.depthAll (w.map NestedKey.num) = 0
  | [] => rfl
  | i :: w => by
    show max (NestedKey.depth (.num i)) (NestedKey.depthAll (w.map NestedKey.num)) = 0
    rw [depth_nums w]
    rfl
theorem keyT_word (w : List Int) : keyT (eWord.en w) = some (wk w) := by
  refine keyT_of ?_ ?_
  · show (match keyDs (w.map D.int) with
      | some ks => some (NestedKey.tup ks)
      | none => none) = _
    rw [keyDs_ints]
    rfl
  · show NestedKey.depthAll (w.map NestedKey.num) + 1 ≤ 8
    rw [depth_nums]
    decide
theorem keyB_word (w : List Int) : keyB (wk w) = eWord.en w := keyT_B (keyT_word w)
theorem wk_inj {a b : List Int} (h : wk a = wk b) : a = b := by
  unfold wk at h
  injection h with h
  exact (List.map_inj_right (f := NestedKey.num) fun x y e => by injection e).mp h
section
variable {α : Type}
/-- a typed table -/
def getT (l : List (List Int × α)) (w : List Int) : Option α := (l.find? fun p => decide (p.1 = w)).map (·.2)
def setT (l : List (List Int × α)) (w : List Int) (q : α) : List (List Int × α) := if (getT l w).isSome = true then l.map (fun p => if p.1 = w then (p.1, q) else p) else l ++ [(w, q)]
def delT (l : List (List Int × α)) (w : List Int) : List (List Int × α) := l.filter fun p => decide (p.1 ≠ w)
def dE (f : α → D) (l : List (List Int × α)) : List (NestedKey × D) := l.map fun p => (wk p.1, f p.2)
theorem dec_wk {a b : List Int} : decide (wk a = wk b) = decide (a = b) := by
  by_cases h : a = b
  · subst h; simp
  · rw [decide_eq_false h, decide_eq_false fun z => h (wk_inj z)]
theorem valD_E (f : α → D) (w : List Int) : ∀ l : List (List Int × α), valD (dE f l) (wk w) = (getT l w).map f
  | [] => rfl
  | p :: l => by
    have ih := valD_E f w l
    unfold valD getT dE at *
    rw [List.map_cons, List.find?_cons, List.find?_cons]
    dsimp only
    rw [dec_wk]
    cases decide (p.1 = w)
    · exact ih
    · rfl
theorem putD_E (f : α → D) (w : List Int) (q : α) (l : List (List Int × α)) : putD (dE f l) (wk w) (f q) = dE f (setT l w q) := by
  unfold putD setT
  rw [valD_E, Option.isSome_map]
  split
  · unfold dE
    rw [List.map_map, List.map_map]
    refine List.map_congr_left fun p _ => ?_
    show (if wk p.1 = wk w then (wk p.1, f q) else (wk p.1, f p.2)) = _
    by_cases h : p.1 = w
    · rw [if_pos (by rw [h])]
      show _ = (fun p : List Int × α => (wk p.1, f p.2)) (if p.1 = w then (p.1, q) else p)
      rw [if_pos h]
    · rw [if_neg fun z => h (wk_inj z)]
      show _ = (fun p : List Int × α => (wk p.1, f p.2)) (if p.1 = w then (p.1, q) else p)
      rw [if_neg h]
  · unfold dE
    rw [List.map_append]
    rfl
theorem keys_E (f : α → D) (l : List (List Int × α)) : (dE f l).map (fun p => keyB p.1) = (l.map (·.1)).map eWord.en := by
  unfold dE
  rw [List.map_map, List.map_map]
  exact List.map_congr_left fun p _ => keyB_word p.1
theorem dE_len (f : α → D) (l : List (List Int × α)) : (dE f l).length = l.length := by unfold dE; rw [List.length_map]
end
/-! the order of words: the shorter first, then as tuples -/
def rkLt (a b : List Int) : Bool := if a.length = b.length then ltN a b else decide (a.length < b.length)
def rkLe (a b : List Int) : Bool := !rkLt b a
def rkKey (w : List Int) : PyData := .tuple [.int (w.length : Nat), eWord.py w]
theorem rkKey_lt (a b : List Int) : PySem.W.dataLt (rkKey a) (rkKey b) = rkLt a b := by
  unfold rkKey
  have ha : PySem.W.alike (eWord.py a) (eWord.py b) = true := by
    show PySem.W.alike (.tuple (a.map PyData.int)) (.tuple (b.map PyData.int)) = true
    rw [PySem.W.alike]
    exact alike_ints a b
  rw [PySem.W.dataLt_pair rfl ha]
  show (if (((a.length : Nat) : Int) == ((b.length : Nat) : Int)) = true then (if PyData.eqv (eWord.py a) (eWord.py b) = true then false else PySem.W.dataLt (eWord.py a) (eWord.py b)) else PySem.W.dataLt (.int (a.length : Nat)) (.int (b.length : Nat))) = _
  unfold rkLt
  rw [lt_word, eWord.heq, PySem.W.dataLt_int]
  by_cases h : a.length = b.length
  · rw [if_pos h, if_pos (by rw [h]; simp)]
    by_cases e : a = b
    · subst e
      rw [if_pos (by simp)]
      have self : ∀ l : List Int, ltN l l = false := fun l => by
        induction l with
        | nil => rfl
        | cons x l ih => unfold ltN; rw [if_pos rfl]; exact ih
      exact (self a).symm
    · rw [if_neg (by simp [e])]
  · rw [if_neg h, if_neg (by simp; omega)]
    rw [Bool.eq_iff_iff, decide_eq_true_iff, decide_eq_true_iff]
    omega
end SW

set_option maxRecDepth 100000
/-! SW22: typed sums of words: adding, the linear look at them, the told sum. -/
namespace SW
open PySem PySem.Spec PyProof.Rows L2
abbrev Wd := List Int
abbrev SumT := List (Wd × Rat)
def coef (l : SumT) (w : Wd) : Rat := (getT l w).getD 0
def addT (l : SumT) (w : Wd) (q : Rat) : SumT := if coef l w + q = 0 then delT l w else setT l w (coef l w + q)
def linS (f : Wd → Rat) : SumT → Rat
  | [] => 0
  | p :: l => p.2 * f p.1 + linS f l
structure Good (l : SumT) : Prop where
  nd : (l.map (·.1)).Nodup
  nz : ∀ p ∈ l, p.2 ≠ 0
theorem good_nil : Good [] := ⟨List.nodup_nil, fun p hp => by cases hp⟩
section
variable {l m : SumT} {w v : Wd} {q : Rat} {f : Wd → Rat}
theorem getT_cons {α : Type} (p : Wd × α) (l : List (Wd × α)) (w : Wd) : getT (p :: l) w = if p.1 = w then some p.2 else getT l w := by
  unfold getT
  rw [List.find?_cons]
  by_cases h : p.1 = w
  · rw [decide_eq_true h, if_pos h]; rfl
  · rw [decide_eq_false h, if_neg h]
theorem getT_none {α : Type} {w : Wd} : ∀ {l : List (Wd × α)}, getT l w = none ↔ w ∉ l.map (·.1)
  | [] => by simp [getT]
  | p :: l => by
    rw [getT_cons, List.map_cons, List.mem_cons]
    by_cases h : p.1 = w
    · simp [h]
    · rw [if_neg h, getT_none]
      have : ¬ w = p.1 := fun z => h z.symm
      simp [this]
theorem getT_of_mem {α : Type} {w : Wd} {q : α} : ∀ {l : List (Wd × α)}, (l.map (·.1)).Nodup → (w, q) ∈ l → getT l w = some q
  | [], _, h => by cases h
  | p :: l, n, h => by
    rw [List.map_cons, List.nodup_cons] at n
    rw [getT_cons]
    rcases List.mem_cons.mp h with e | h
    · rw [← e, if_pos rfl]
    · have : ¬ p.1 = w := fun z => n.1 (by rw [z]; exact List.mem_map.mpr ⟨_, h, rfl⟩)
      rw [if_neg this]
      exact getT_of_mem n.2 h
theorem coef_cons (p : Wd × Rat) (l : SumT) (w : Wd) : coef (p :: l) w = if p.1 = w then p.2 else coef l w := by
  unfold coef
  rw [getT_cons]
  split <;> rfl
theorem coef_not (h : w ∉ l.map (·.1)) : coef l w = 0 := by
  unfold coef
  rw [getT_none.mpr h]
  rfl
theorem delT_not {α : Type} {l : List (Wd × α)} {w : Wd} (h : w ∉ l.map (·.1)) : delT l w = l := by
  unfold delT
  refine List.filter_eq_self.mpr fun p hp => ?_
  exact decide_eq_true fun z => h (by rw [← z]; exact List.mem_map.mpr ⟨p, hp, rfl⟩)
theorem lin_del : ∀ {l : SumT}, (l.map (·.1)).Nodup → linS f (delT l w) = linS f l - coef l w * f w
  | [], _ => by
    show (0 : Rat) = 0 - coef [] w * f w
    have : coef ([] : SumT) w = 0 := rfl
    rw [this]; grind
  | p :: l, n => by
    rw [List.map_cons, List.nodup_cons] at n
    rw [coef_cons]
    by_cases h : p.1 = w
    · have e : delT (p :: l) w = delT l w := by unfold delT; rw [List.filter_cons_of_neg (by simp [h])]
      rw [e, delT_not (by rw [← h]; exact n.1), if_pos h]
      show linS f l = p.2 * f p.1 + linS f l - p.2 * f w
      rw [h]; grind
    · have e : delT (p :: l) w = p :: delT l w := by unfold delT; rw [List.filter_cons_of_pos (by simp [h])]
      rw [e, if_neg h]
      show p.2 * f p.1 + linS f (delT l w) = p.2 * f p.1 + linS f l - coef l w * f w
      rw [lin_del n.2]; grind
theorem lin_append (a b : SumT) : linS f (a ++ b) = linS f a + linS f b := by
  induction a with
  | nil => show linS f b = 0 + linS f b; grind
  | cons p a ih => show p.2 * f p.1 + linS f (a ++ b) = p.2 * f p.1 + linS f a + linS f b; rw [ih]; grind
theorem map_not : ∀ {l : SumT}, w ∉ l.map (·.1) → (l.map fun p => if p.1 = w then (p.1, q) else p) = l
  | [], _ => rfl
  | p :: l, h => by
    rw [List.map_cons, List.mem_cons] at h
    rw [List.map_cons, map_not fun z => h (.inr z), if_neg fun z => h (.inl z.symm)]
theorem lin_map : ∀ {l : SumT}, (l.map (·.1)).Nodup → w ∈ l.map (·.1) → linS f (l.map fun p => if p.1 = w then (p.1, q) else p) = linS f l + (q - coef l w) * f w
  | [], _, h => by cases h
  | p :: l, n, h => by
    rw [List.map_cons, List.nodup_cons] at n
    rw [List.map_cons, coef_cons]
    by_cases e : p.1 = w
    · rw [if_pos e, if_pos e, map_not (by rw [← e]; exact n.1)]
      show q * f p.1 + linS f l = p.2 * f p.1 + linS f l + (q - p.2) * f w
      rw [e]; grind
    · rw [if_neg e, if_neg e]
      rw [List.map_cons, List.mem_cons] at h
      show p.2 * f p.1 + linS f _ = p.2 * f p.1 + linS f l + (q - coef l w) * f w
      rw [lin_map n.2 (h.resolve_left fun z => e z.symm)]; grind
theorem isSome_mem {α : Type} {l : List (Wd × α)} : (getT l w).isSome = true ↔ w ∈ l.map (·.1) := by
  have := getT_none (l := l) (w := w)
  cases h : getT l w with
  | none => simp [this.mp h]
  | some x =>
    simp only [Option.isSome_some, true_iff]
    exact Classical.byContradiction fun z => by rw [this.mpr z] at h; cases h
theorem lin_set (n : (l.map (·.1)).Nodup) : linS f (setT l w q) = linS f l + (q - coef l w) * f w := by
  unfold setT
  by_cases h : (getT l w).isSome = true
  · rw [if_pos h, lin_map n (isSome_mem.mp h)]
  · rw [if_neg h, lin_append, coef_not fun z => h (isSome_mem.mpr z)]
    show linS f l + (q * f w + 0) = _
    grind
/-- THE look at an addition -/
theorem lin_add (n : (l.map (·.1)).Nodup) : linS f (addT l w q) = linS f l + q * f w := by
  unfold addT
  split
  · rename_i h
    rw [lin_del n]
    have : coef l w = -q := by grind
    rw [this]; grind
  · rw [lin_set n]; grind
theorem keys_set {α : Type} (l : List (Wd × α)) (w : Wd) (q : α) : (setT l w q).map (·.1) = if (getT l w).isSome = true then l.map (·.1) else l.map (·.1) ++ [w] := by
  unfold setT
  split
  · rw [List.map_map]
    refine List.map_congr_left fun p _ => ?_
    show (if p.1 = w then (p.1, q) else p).1 = p.1
    split <;> rfl
  · rw [List.map_append]; rfl
theorem nodup_set {α : Type} {l : List (Wd × α)} {w : Wd} {q : α} (n : (l.map (·.1)).Nodup) : ((setT l w q).map (·.1)).Nodup := by
  rw [keys_set]
  split
  · exact n
  · rename_i h
    refine List.nodup_append.mpr ⟨n, by simp, ?_⟩
    intro a ha b hb
    rw [List.mem_singleton.mp hb]
    exact fun z => h (isSome_mem.mpr (by rw [← z]; exact ha))
theorem nodup_del {α : Type} {l : List (Wd × α)} {w : Wd} (n : (l.map (·.1)).Nodup) : ((delT l w).map (·.1)).Nodup := by
  unfold delT
  exact n.sublist ((List.filter_sublist).map _)
theorem mem_set {α : Type} {l : List (Wd × α)} {w : Wd} {q : α} {p : Wd × α} (h : p ∈ setT l w q) : p = (w, q) ∨ p ∈ l := by
  unfold setT at h
  split at h
  · obtain ⟨x, hx, e⟩ := List.mem_map.mp h
    split at e
    · rename_i hw; subst hw; exact .inl e.symm
    · subst e; exact .inr hx
  · rcases List.mem_append.mp h with h | h
    · exact .inr h
    · exact .inl (List.mem_singleton.mp h)
theorem Good.add (g : Good l) (w : Wd) (q : Rat) : Good (addT l w q) := by
  unfold addT
  split
  · exact ⟨nodup_del g.nd, fun p hp => g.nz p (List.mem_filter.mp hp).1⟩
  · rename_i h
    refine ⟨nodup_set g.nd, fun p hp => ?_⟩
    rcases mem_set hp with e | hp
    · rw [e]; exact h
    · exact g.nz p hp
theorem set_len {α : Type} (l : List (Wd × α)) (w : Wd) (q : α) : (setT l w q).length ≤ l.length + 1 := by
  unfold setT
  split
  · rw [List.length_map]; omega
  · rw [List.length_append]; simp
theorem add_len (l : SumT) (w : Wd) (q : Rat) : (addT l w q).length ≤ l.length + 1 := by
  unfold addT
  split
  · have : (delT l w).length ≤ l.length := List.length_filter_le _ _
    omega
  · exact set_len _ _ _
/-- one word's look -/
def ind (w : Wd) : Wd → Rat := fun v => if v = w then 1 else 0
theorem lin_ind : ∀ {l : SumT}, (l.map (·.1)).Nodup → linS (ind w) l = coef l w
  | [], _ => rfl
  | p :: l, n => by
    rw [List.map_cons, List.nodup_cons] at n
    rw [coef_cons]
    show p.2 * ind w p.1 + linS (ind w) l = _
    rw [lin_ind n.2]
    unfold ind
    by_cases h : p.1 = w
    · rw [if_pos h, if_pos h, coef_not (by rw [← h]; exact n.1)]; grind
    · rw [if_neg h, if_neg h]; grind
theorem coef_add (n : Good l) : coef (addT l w q) v = coef l v + (if w = v then q else 0) := by
  rw [← lin_ind (n.add w q).nd, lin_add n.nd, lin_ind n.nd]
  unfold ind
  split <;> grind
theorem coef_mem (g : Good l) : w ∈ l.map (·.1) ↔ coef l w ≠ 0 := by
  constructor
  · intro h
    obtain ⟨p, hp, e⟩ := List.mem_map.mp h
    have : getT l w = some p.2 := getT_of_mem g.nd (by rw [← e]; exact hp)
    unfold coef
    rw [this]
    exact g.nz p hp
  · intro h
    exact Classical.byContradiction fun z => h (coef_not z)
theorem lin_perm (h : l.Perm m) : linS f l = linS f m := by
  induction h with
  | nil => rfl
  | cons p _ ih => show p.2 * f p.1 + linS f _ = p.2 * f p.1 + linS f _; rw [ih]
  | swap p q l => show q.2 * f q.1 + (p.2 * f p.1 + linS f l) = p.2 * f p.1 + (q.2 * f q.1 + linS f l); grind
  | trans _ _ a b => rw [a, b]
end

/-! ### the order of words -/
theorem ltN_self : ∀ l : Wd, ltN l l = false
  | [] => rfl
  | x :: l => by unfold ltN; rw [if_pos rfl]; exact ltN_self l
theorem ltN_asymm : ∀ a b : Wd, ltN a b = true → ltN b a = false
  | [], [], h => by cases h
  | [], _ :: _, _ => rfl
  | _ :: _, [], h => by cases h
  | x :: a, y :: b, h => by
    unfold ltN at h ⊢
    by_cases e : x = y
    · rw [if_pos e] at h
      rw [if_pos e.symm]
      exact ltN_asymm a b h
    · rw [if_neg e] at h
      rw [if_neg fun z => e z.symm]
      have := of_decide_eq_true h
      exact decide_eq_false (by omega)
theorem ltN_trans : ∀ a b c : Wd, ltN a b = true → ltN b c = true → ltN a c = true
  | a, [], _, h, _ => by
    have e : ltN a [] = false := by cases a <;> rfl
    rw [e] at h; cases h
  | _, _ :: _, [], _, h => by cases h
  | [], _ :: _, _ :: _, _, _ => rfl
  | x :: a, y :: b, z :: c, h1, h2 => by
    unfold ltN at h1 h2 ⊢
    by_cases e1 : x = y
    · rw [if_pos e1] at h1
      by_cases e2 : y = z
      · rw [if_pos e2] at h2
        rw [if_pos (e1.trans e2)]
        exact ltN_trans a b c h1 h2
      · rw [if_neg e2] at h2
        rw [if_neg (by rw [e1]; exact e2), e1]
        exact h2
    · rw [if_neg e1] at h1
      have q1 := of_decide_eq_true h1
      by_cases e2 : y = z
      · rw [if_neg (by rw [← e2]; exact e1), ← e2]; exact h1
      · rw [if_neg e2] at h2
        have q2 := of_decide_eq_true h2
        rw [if_neg (by omega)]
        exact decide_eq_true (by omega)
theorem ltN_total : ∀ a b : Wd, ltN a b = false → ltN b a = false → a = b
  | [], [], _, _ => rfl
  | [], _ :: _, h, _ => by cases h
  | _ :: _, [], _, h => by cases h
  | x :: a, y :: b, h1, h2 => by
    unfold ltN at h1 h2
    by_cases e : x = y
    · rw [if_pos e] at h1
      rw [if_pos e.symm] at h2
      rw [e, ltN_total a b h1 h2]
    · rw [if_neg e] at h1
      rw [if_neg fun z => e z.symm] at h2
      have := of_decide_eq_false h1
      have := of_decide_eq_false h2
      omega
theorem rkLt_self (a : Wd) : rkLt a a = false := by unfold rkLt; rw [if_pos rfl]; exact ltN_self a
theorem rkLt_asymm {a b : Wd} (h : rkLt a b = true) : rkLt b a = false := by
  unfold rkLt at h ⊢
  by_cases e : a.length = b.length
  · rw [if_pos e] at h
    rw [if_pos e.symm]
    exact ltN_asymm a b h
  · rw [if_neg e] at h
    rw [if_neg fun z => e z.symm]
    have := of_decide_eq_true h
    exact decide_eq_false (by omega)
theorem rkLt_trans {a b c : Wd} (h1 : rkLt a b = true) (h2 : rkLt b c = true) : rkLt a c = true := by
  unfold rkLt at h1 h2 ⊢
  by_cases e1 : a.length = b.length
  · rw [if_pos e1] at h1
    by_cases e2 : b.length = c.length
    · rw [if_pos e2] at h2
      rw [if_pos (e1.trans e2)]
      exact ltN_trans a b c h1 h2
    · rw [if_neg e2] at h2
      have q2 := of_decide_eq_true h2
      rw [if_neg (by omega)]
      exact decide_eq_true (by omega)
  · rw [if_neg e1] at h1
    have q1 := of_decide_eq_true h1
    by_cases e2 : b.length = c.length
    · rw [if_neg (by omega)]
      exact decide_eq_true (by omega)
    · rw [if_neg e2] at h2
      have q2 := of_decide_eq_true h2
      rw [if_neg (by omega)]
      exact decide_eq_true (by omega)
theorem rkLt_total {a b : Wd} (h1 : rkLt a b = false) (h2 : rkLt b a = false) : a = b := by
  unfold rkLt at h1 h2
  by_cases e : a.length = b.length
  · rw [if_pos e] at h1
    rw [if_pos e.symm] at h2
    exact ltN_total a b h1 h2
  · rw [if_neg e] at h1
    rw [if_neg fun z => e z.symm] at h2
    have := of_decide_eq_false h1
    have := of_decide_eq_false h2
    omega
theorem rkLe_trans (a b c : Wd) (h1 : rkLe a b = true) (h2 : rkLe b c = true) : rkLe a c = true := by
  unfold rkLe at h1 h2 ⊢
  have e1 : rkLt b a = false := by simpa using h1
  have e2 : rkLt c b = false := by simpa using h2
  cases h : rkLt c a with
  | false => rfl
  | true =>
    exfalso
    cases hab : rkLt a b with
    | true => rw [rkLt_trans h hab] at e2; cases e2
    | false =>
      have := rkLt_total hab e1
      subst this
      rw [h] at e2; cases e2
theorem rkLe_total (a b : Wd) : (rkLe a b || rkLe b a) = true := by
  unfold rkLe
  cases h : rkLt b a with
  | false => simp
  | true => rw [rkLt_asymm h]; simp
/-- sorted without doubles: each less than the next -/
def Rising (l : List Wd) : Prop := l.Pairwise fun a b => rkLt a b = true
theorem Rising.nodup {l : List Wd} (h : Rising l) : l.Nodup := h.imp fun {a b} q z => by subst z; rw [rkLt_self] at q; cases q
theorem rising_sort {l : List Wd} (n : l.Nodup) : Rising (l.mergeSort rkLe) := by
  have p := List.pairwise_mergeSort (le := rkLe) rkLe_trans rkLe_total l
  have n' : (l.mergeSort rkLe).Nodup := (List.mergeSort_perm l rkLe).nodup_iff.mpr n
  refine (List.Pairwise.and p n').imp fun {a b} q => ?_
  obtain ⟨h, ne⟩ := q
  unfold rkLe at h
  have h : rkLt b a = false := by simpa using h
  cases e : rkLt a b with
  | true => rfl
  | false => exact (ne (rkLt_total e h)).elim
/-- rising lists of the same words are one -/
theorem rising_eq : ∀ {a b : List Wd}, Rising a → Rising b → (∀ w, w ∈ a ↔ w ∈ b) → a = b
  | [], [], _, _, _ => rfl
  | [], y :: b, _, _, h => by have := (h y).mpr List.mem_cons_self; cases this
  | x :: a, [], _, _, h => by have := (h x).mp List.mem_cons_self; cases this
  | x :: a, y :: b, ha, hb, h => by
    have ha' := List.pairwise_cons.mp ha
    have hb' := List.pairwise_cons.mp hb
    have e : x = y := by
      rcases List.mem_cons.mp ((h x).mp List.mem_cons_self) with e | hx
      · exact e
      · rcases List.mem_cons.mp ((h y).mpr List.mem_cons_self) with e | hy
        · exact e.symm
        · have q1 := hb'.1 x hx
          have q2 := ha'.1 y hy
          rw [rkLt_asymm q1] at q2; cases q2
    subst e
    rw [rising_eq ha'.2 hb'.2 fun w => ?_]
    constructor
    · intro hw
      rcases List.mem_cons.mp ((h w).mp (List.mem_cons_of_mem _ hw)) with e | hw2
      · subst e; have := ha'.1 w hw; rw [rkLt_self] at this; cases this
      · exact hw2
    · intro hw
      rcases List.mem_cons.mp ((h w).mpr (List.mem_cons_of_mem _ hw)) with e | hw2
      · subst e; have := hb'.1 w hw; rw [rkLt_self] at this; cases this
      · exact hw2
/-- the told sum of a table -/
def toldT (l : SumT) : SumT := ((l.map (·.1)).mergeSort rkLe).map fun w => (w, coef l w)
theorem told_keys (l : SumT) : (toldT l).map (·.1) = (l.map (·.1)).mergeSort rkLe := by
  unfold toldT
  rw [List.map_map]
  exact List.map_id _
theorem told_perm {l : SumT} (n : (l.map (·.1)).Nodup) : (toldT l).Perm l := by
  unfold toldT
  have p := (List.mergeSort_perm (l.map (·.1)) rkLe).map fun w => (w, coef l w)
  rw [List.map_map] at p
  refine p.trans ?_
  have e : l.map ((fun w => (w, coef l w)) ∘ fun p => p.1) = l := by
    conv => rhs; rw [← List.map_id l]
    refine List.map_congr_left fun p hp => ?_
    show (p.1, coef l p.1) = p
    unfold coef
    rw [getT_of_mem n (q := p.2) hp]
    rfl
  rw [e]
/-- a sum as it is told -/
structure Sm (l : SumT) : Prop where
  up : Rising (l.map (·.1))
  nz : ∀ p ∈ l, p.2 ≠ 0
theorem Sm.good {l : SumT} (h : Sm l) : Good l := ⟨h.up.nodup, h.nz⟩
theorem Good.told {l : SumT} (g : Good l) : Sm (toldT l) := ⟨by rw [told_keys]; exact rising_sort g.nd, fun p hp => g.nz p ((told_perm g.nd).mem_iff.mp hp)⟩
theorem lin_told {l : SumT} {f : Wd → Rat} (g : Good l) : linS f (toldT l) = linS f l := lin_perm (told_perm g.nd)
/-- sums that look alike are one -/
theorem sm_eq {a b : SumT} (ha : Sm a) (hb : Sm b) (h : ∀ f, linS f a = linS f b) : a = b := by
  have hc : ∀ w, coef a w = coef b w := fun w => by rw [← lin_ind ha.good.nd, ← lin_ind hb.good.nd, h]
  have hk : a.map (·.1) = b.map (·.1) := rising_eq ha.up hb.up fun w => by rw [coef_mem ha.good, coef_mem hb.good, hc]
  have key : ∀ {l : SumT}, Good l → l = (l.map (·.1)).map fun w => (w, coef l w) := fun {l} g => by
    rw [List.map_map]
    conv => lhs; rw [← List.map_id l]
    refine List.map_congr_left fun p hp => ?_
    show p = (p.1, coef l p.1)
    unfold coef
    rw [getT_of_mem g.nd (q := p.2) hp]
    rfl
  rw [key ha.good, key hb.good, hk]
  exact List.map_congr_left fun w _ => by rw [hc]
theorem told_eq {a b : SumT} (ha : Good a) (hb : Good b) (h : ∀ f, linS f a = linS f b) : toldT a = toldT b := sm_eq ha.told hb.told fun f => by rw [lin_told ha, lin_told hb, h]
theorem told_sm {a : SumT} (h : Sm a) : toldT a = a := sm_eq h.good.told h fun f => lin_told h.good
end SW

set_option maxRecDepth 100000
/-! SW23: more of loops. -/
namespace SW
open PySem PySem.Spec PyProof.Rows L2
/-- a loop that turns a state; what is left of the list is known -/
theorem forL_foldr {ι σ : Type} {b : D → Rho → Option Rho} {g : Rho → Out Fl} {f : ι → D} {St : List ι → σ → Rho → Prop} {step : σ → ι → σ} : ∀ (l : List ι) (s : σ) (ρ : Rho), St l s ρ → (∀ i l s ρ, St (i :: l) s ρ → ∃ ρ1 ρ2, b (f i) ρ = some ρ1 ∧ g ρ1 = .ok (.nx ρ2) ∧ St l (step s i) ρ2) →
    ∃ ρ', forL b g (l.map f) ρ = .ok (.nx ρ') ∧ St [] (l.foldl step s) ρ'
  | [], s, ρ, h, _ => ⟨ρ, rfl, h⟩
  | i :: l, s, ρ, h, st => by
    obtain ⟨ρ1, ρ2, e1, e2, h2⟩ := st i l s ρ h
    obtain ⟨ρ', e3, h3⟩ := forL_foldr l (step s i) ρ2 h2 st
    refine ⟨ρ', ?_, h3⟩
    rw [List.map_cons]
    unfold forL
    rw [e1]
    dsimp only
    rw [e2, bind_ok]
    exact e3
end SW

set_option maxRecDepth 100000
/-! SW24: sorted(e) without a key, x.pop(i). -/
namespace SW
open PySem PySem.Spec PyProof.Rows L2
open PySem.W (EachIs dataLe AllAlike Sortable alike)

/-! ### tuples among which some are empty -/
section
open PySem.SeqAt PySem.W
variable {prog : Program} {w : World} {A : Around} {E : Value → Shared → Prop} {s : Shared}
variable {M : Model}
end
section
variable {X : Cx}
variable {W : WX} {os os1 : Os} {e : Expr} {f : Rho → Out (D × Rho)} {pos p : Pos}
/-! x.pop(i) -/
end
end SW

set_option maxRecDepth 100000
/-! SW25: dict(list of pairs). -/
namespace SW
open PySem PySem.Spec PyProof.Rows L2

/-- one pair on the heap -/
structure Pz where
  k : NestedKey
  b : Addr
  v : V
  u : Value
  t : Addr
section
variable {X : Cx} {pins : List (Addr × Obj)} {σ : L2.St} {S H : Hp} {s : Shared}
structure PzOk (X : Cx) (S : Hp) (s : Shared) (z : Pz) (p : NestedKey × D) : Prop where
  k : z.k = p.1
  hk : At X.K S (.ref z.b) (keyB p.1)
  kt : keyT (keyB p.1) = some p.1
  hv : At X.K S z.v p.2
  rv : RelV z.v z.u
  tp : s.heap.IsTuple z.t #[.ref z.b, z.u]
variable {W : WX} {os os1 : Os} {e : Expr} {f : Rho → Out (D × Rho)} {pos p : Pos}
end
end SW

set_option maxRecDepth 100000
/-! SW26: x[::-1] of lists. -/
namespace SW
open PySem PySem.Spec PyProof.Rows L2
section
variable {X : Cx} {W : WX} {os os1 os2 : Os} {e st : Expr} {f fs : Rho → Out (D × Rho)} {pos p2 : Pos} {te : TE} {ts : TO}
end
end SW

set_option maxRecDepth 100000
/-! SW27: raise C(); try: x = e, except C as n: y = n. -/
namespace SW
open PySem PySem.Spec PyProof.Rows L2
/-- what is known of an error's class -/
structure ExF (K : PySem.W.Frag) (mg : Str → Option Value) (x : Str) (C : Addr) : Prop where
  g : mg x = some (.ref C)
  k : PySem.W.keepIn K (.ref C) = true
  e : PySem.W.excIn K C vBase "ValueError.__new__" = true
  s : PySem.W.subIn K (.ref C) (.type "BaseException") = some true
  t : PySem.W.typeIn K (.ref C) = some (.type "type")
section
variable {X : Cx} {W : WX} {L : Lc} {os os1 : Os} {pos p cp : Pos} {x : Str} {C : Addr}
/-! ### try -/
theorem Rel.none {K : PySem.W.Frag} {S H : Hp} {σ : Sg} {ρ : Rho} (r : Rel K S H os σ ρ) (i : Nat) (hi : os.getD i false = false) : Rel K S H os (σ.set i none) (ρ.set i none) where
  sub := r.sub
  len := by rw [List.length_set, List.length_set]; exact r.len
  slot := fun j x d e1 e2 => by
    by_cases hj : i = j
    · subst hj
      have h1 := (List.getElem?_eq_some_iff.mp e1).1
      have h2 := (List.getElem?_eq_some_iff.mp e2).1
      rw [List.length_set] at h1 h2
      rw [List.getElem?_set_self h1] at e1
      rw [List.getElem?_set_self h2] at e2
      cases e1; cases e2
      cases os.getD i false <;> trivial
    · rw [List.getElem?_set_ne hj] at e1 e2
      exact r.slot j x d e1 e2
  sep := fun j k a h1 h2 e1 e2 => by
    have hj : i ≠ j := fun z => by subst z; rw [hi] at h1; cases h1
    have hk : i ≠ k := fun z => by subst z; rw [hi] at h2; cases h2
    rw [List.getElem?_set_ne hj] at e1
    rw [List.getElem?_set_ne hk] at e2
    exact r.sep j k a h1 h2 e1 e2
end
end SW

set_option maxRecDepth 100000
/-! SW28: isinstance of a kept error; l.index(x). -/
namespace SW
open PySem PySem.Spec PyProof.Rows L2
section
variable {X : Cx} {W : WX} {os os1 os2 : Os} {e ec e2 : Expr} {f f2 : Rho → Out (D × Rho)} {pos p : Pos}
/-! l.index(x) -/
end
end SW

set_option maxRecDepth 100000
/-! SW29: instances of a class: attributes, methods, making, storing; a call that borrows. -/
namespace SW
open PySem PySem.Spec PyProof.Rows L2
section
variable {K : PySem.W.Frag} {S : Hp}
end
/-- what is known of a class -/
structure ClsF (K : PySem.W.Frag) (mg : Str → Option Value) (c : Str) (C : Addr) : Prop where
  g : mg c = some (.ref C)
  n : PySem.W.nsIn K mainGlobals c = some (some (.ref C))
  cl : Cls K C
section
variable {X : Cx} {W : WX} {os os1 os2 : Os} {e o : Expr} {es : List Expr} {f : Str} {fo : Rho → Out (D × Rho)} {g : Rho → Out (List D × Rho)} {pos apos p : Pos} {c m : Str} {C fa : Addr} {fd : FuncData} {ps : List Str} {k kk : Nat} {r : Bool} {sp : Sp} {E : L2.St → XK} {ta : TE} {t : TA}
/-! ### methods -/
end
end SW

set_option maxRecDepth 100000
/-! SW30: an instance is made; its attributes are stored; a call that borrows what a name owns. -/
namespace SW
open PySem PySem.Spec PyProof.Rows L2
section
variable {X : Cx} {W : WX} {L : Lc} {os os1 os2 : Os} {e o : Expr} {es : List Expr} {f : Str} {fe : Rho → Out (D × Rho)} {g : Rho → Out (List D × Rho)} {pos apos p : Pos} {c m x : Str} {C fa : Addr} {fd : FuncData} {ps : List Str} {k kk : Nat} {r : Bool} {sp : Sp} {E : L2.St → XK} {ta : TE} {t : TA}
/-! ### an attribute is stored -/
end
end SW

set_option maxRecDepth 100000
/-! SW31: a call that borrows an owned instance. -/
namespace SW
open PySem PySem.Spec PyProof.Rows L2
def cut (S : Hp) (a : Addr) : Hp := fun b => if b = a then none else S b
section
variable {K : PySem.W.Frag} {S : Hp} {a C dx : Addr} {fv : List (Str × V)}
end
section
variable {X : Cx} {W : WX} {os : Os} {pos p p0 : Pos} {k kk : Nat} {fa : Addr} {fd : FuncData} {ps : List Str}
end
end SW

set_option maxRecDepth 100000
/-! SW32: chains of three comparisons; errors with a field: raise C(e), isinstance, err.f. -/
namespace SW
open PySem PySem.Spec PyProof.Rows L2
section
variable {X : Cx} {W : WX} {L : Lc} {os os1 os2 : Os} {e e1 e2 e3 e4 ec : Expr} {f f1 f2 f3 f4 : Rho → Out (D × Rho)} {pos p cp : Pos} {a b c d : Expr} {ta tb tc td : TE}
/-! ### a op1 b op2 c op3 d -/
/-! ### raise C(e) -/
/-- what is known of an error's class with a field -/
structure ErF (K : PySem.W.Frag) (mg : Str → Option Value) (c f : Str) (C fa : Addr) : Prop where
  g : mg c = some (.ref C)
  n : PySem.W.nsIn K mainGlobals c = some (some (.ref C))
  t : OexC K C
  i : PySem.W.findIn K (.ref C) "__init__" = some (some (.ref fa))
  ft : PySem.W.typeIn K (.ref fa) = some (.type "function")
  no : PySem.W.findIn K (.ref C) f = some none
end
end SW

set_option maxRecDepth 100000
/-! SW33: errors with a field: their __init__, isinstance, err.f. -/
namespace SW
open PySem PySem.Spec PyProof.Rows L2
section
variable {P : Program} {w : World} {K : PySem.W.Frag} {mg : Str → Option Value} {base : Heap}
end
section
variable {X : Cx} {W : WX} {os os1 os2 : Os} {e ec e2 : Expr} {f f2 : Rho → Out (D × Rho)} {pos p : Pos}
/-! ### err.f -/
end
end SW

set_option maxRecDepth 100000
/-! SW34: try: e, except C as n: y = n. -/
namespace SW
open PySem PySem.Spec PyProof.Rows L2
section
variable {X : Cx} {W : WX} {L : Lc} {os os1 : Os} {pos p cp : Pos} {x : Str} {C : Addr}
end
end SW

set_option maxRecDepth 100000
/-! SW35: equations for mirrors: statements in turn, dicts with pairs as keys, sorted pairs, enumerate. -/
namespace SW
open PySem PySem.Spec PyProof.Rows L2
/-! statements in turn -/
section
variable {a b : Rho → Out Fl} {ρ ρ1 : Rho} {d : D}
end
/-! dicts with pairs as keys -/
abbrev Pr := Nat × Nat
def pk (p : Pr) : List Int := [((p.1 : Nat) : Int), ((p.2 : Nat) : Int)]
section
variable {α : Type}
end
/-! sorted words, sorted pairs -/
/-! enumerate, indexes -/
/-! a loop over the first numbers -/
/-! an error's class with a field of its own, looked at by one truth -/
end SW

set_option maxRecDepth 100000
/-! SW36: the constants off the top's facts. -/
namespace SW
open PySem PySem.Spec PyProof.Rows L2
section
variable {fk : PySem.W.Frag → Bool} {fn : List He.FnD} {K : PySem.W.Frag} {h : Heap} {mg : Str → Option Value}
theorem konst_intB (X : K.In h) (G : h.Ns mainGlobals mg) {x : Str} {i : Int} (c : (He.Fa.int x i).ok K = true) : Konst K mg x (.int i) := by
  obtain ⟨t, e⟩ := He.int_ok X G c
  exact konst_int e
theorem konst_strB (X : K.In h) (G : h.Ns mainGlobals mg) {x z : Str} (c : (He.Fa.str x z).ok K = true) : Konst K mg x (.str z) := by
  obtain ⟨t, e⟩ := He.str_ok X G c
  exact konst_str e
end
end SW

set_option maxRecDepth 100000
/-! SW37: an owned list put together with another one: a new list; the owner keeps its own. -/
namespace SW
open PySem PySem.Spec PyProof.Rows L2
section
variable {X : Cx} {W : WX} {os os1 : Os} {e2 : Expr} {f2 : Rho → Out (D × Rho)} {pos p : Pos}
def eCatO (i : Nat) (f : Rho → Out (D × Rho)) : Rho → Out (D × Rho) := fun ρ => match ρ.getD i none with
  | some _ => (f ρ).bind fun q => match q.2.getD i none with
    | some d => (Out.of (catL d q.1)).bind fun c => .ok (c, q.2)
    | none => .stuck
  | none => .stuck
end
end SW

set_option maxRecDepth 100000
/-! SW38: x.insert(i, e) of an owned list. -/
namespace SW
open PySem PySem.Spec PyProof.Rows L2
section
variable {X : Cx}
def uInsert : List D → List D → Option (D × List D)
  | ds, [.int i, d] => if 0 ≤ i ∧ i < 2 ^ 63 ∧ ds.length < sizeLine then some (.non, ds.take i.toNat ++ [d] ++ ds.drop i.toNat) else none
  | _, _ => none
theorem own_insert : OwnM X "list.insert" uInsert := ⟨_, mt_insert, fun S H a vs ds ws es c ds' Q sub hH na r rw_ z e k => by
  unfold uInsert at e
  split at e
  · rename_i i d
    split at e
    · rename_i hi
      cases e
      match ws, rw_ with
      | [_, w], .cons (.int _) (.cons hw .nil) =>
        refine ⟨a, vs, i, w, rfl, rfl, hH, by rw [r.length]; exact hi.2.2, hi.1, hi.2.1, k _ _ (((r.take i.toNat).append (.cons hw .nil)).append (r.drop i.toNat)) ?_ .non⟩
        rw [List.length_append, List.length_append, List.length_take, List.length_drop, List.length_singleton]
        omega
    · cases e
  · cases e⟩
end
end SW

set_option maxRecDepth 100000
/-! SW39: a look that gives tuples or a new list of them; a call whose turned argument is new, at any place. -/
namespace SW
open PySem PySem.Spec PyProof.Rows L2

mutual
/-- no list, no dict, no instance in it -/
def tokD : D → Bool
  | .non => true
  | .bl _ => true
  | .int _ => true
  | .str _ => true
  | .ty _ => true
  | .tup ds => tokL ds
  | _ => false
def tokL : List D → Bool
  | [] => true
  | d :: ds => tokD d && tokL ds
end
/-- no cell of a tuple is dropped -/
def NoTup (S : Hp) (O : Addr → Prop) : Prop := ∀ a vs, O a → (S a ≠ some (.tup vs) ∧ ∀ o, S a ≠ some (.frz o (.tup vs)))
section
variable {K : PySem.W.Frag} {S S2 : Hp} {O : Addr → Prop}
theorem sqT_drop {a : Addr} {vs : List V} (hn : NoTup S O) (h2 : ∀ a, ¬ O a → S2 a = S a) (h : SqT K S a vs) : SqT K S2 a vs := by
  rcases h with (h | ⟨o, h⟩) | h
  · exact .inl (.inl (by rw [h2 a fun z => (hn a vs z).1 h]; exact h))
  · exact .inl (.inr ⟨o, by rw [h2 a fun z => (hn a vs z).2 o h]; exact h⟩)
  · exact .inr h
mutual
theorem tok_drop (hn : NoTup S O) (h2 : ∀ a, ¬ O a → S2 a = S a) : ∀ {v : V} {d : D}, At K S v d → tokD d = true → At K S2 v d
  | _, _, .non, _ => .non
  | _, _, .bl b, _ => .bl b
  | _, _, .int i, _ => .int i
  | _, _, .str x, _ => .str x
  | _, _, .tup h z r, t => .tup (sqT_drop hn h2 h) z (tokL_drop hn h2 r (by unfold tokD at t; exact t))
  | _, _, .lst _ _ _, t => by unfold tokD at t; cases t
  | _, _, .dct _ _ _ _, t => by unfold tokD at t; cases t
  | _, _, .ins _ _ _ _ _, t => by unfold tokD at t; cases t
  | _, _, .exc0 _ _, t => by unfold tokD at t; cases t
  | _, _, .exc1 _ _ _ _, t => by unfold tokD at t; cases t
  | _, _, .scr _ _, t => by unfold tokD at t; cases t
  | _, _, .ty n h, _ => .ty n h
theorem tokL_drop (hn : NoTup S O) (h2 : ∀ a, ¬ O a → S2 a = S a) : ∀ {vs : List V} {ds : List D}, AtL K S vs ds → tokL ds = true → AtL K S2 vs ds
  | _, _, .nil, _ => .nil
  | _, _, .cons h r, t => by
    unfold tokL at t
    obtain ⟨t1, t2⟩ := Bool.and_eq_true_iff.mp t
    exact .cons (tok_drop hn h2 h t1) (tokL_drop hn h2 r t2)
end
end
section
variable {K : PySem.W.Frag} {S S' H H' S1 : Hp} {os : Os} {σ : Sg} {ρ : Rho}
theorem Rel.ownBody (r : Rel K S H os σ ρ) {a : Addr} (h : Own os σ a) : ∃ o d, H a = some o ∧ Body K S a o d := by
  obtain ⟨i, ho, hs⟩ := h
  have hl : i < ρ.length := by rw [← r.len]; exact (List.getElem?_eq_some_iff.mp hs).1
  have q := r.slot i _ _ hs (List.getElem?_eq_getElem hl)
  rw [ho] at q
  cases e : ρ[i] with
  | none => rw [e] at q; exact q.elim
  | some d =>
    rw [e] at q
    obtain ⟨b, eb, _, o, eh, bd⟩ := (show OwnAt K S H (.ref a) d from q)
    cases eb
    exact ⟨o, d, eh, bd⟩
theorem Look.noTup (lk : Look S H os σ S1) (r : Rel K S H os σ ρ) (e : Same S1 S') : NoTup S' (Own os σ) := fun a vs ho => by
  obtain ⟨o, d, eh, bd⟩ := r.ownBody ho
  have q := e a o ((lk.own a ho).trans eh)
  rw [q]
  cases bd <;> exact ⟨(fun z => by cases z), fun _ z => by cases z⟩
/-- behind a look: what was owned is owned again; what else stands, stands -/
theorem Look.backT (lk : Look S H os σ S1) (r : Rel K S H os σ ρ) (x : Ext (Own [] σ) S1 H S' H') : ∃ S2, (∀ a, ¬ Own os σ a → S2 a = S' a) ∧ (∀ a, Own os σ a → S2 a = none) ∧ Rel K S2 H' os σ ρ ∧ Stp os σ S H os σ S2 H' := by
  classical
  have h2 : ∀ a, ¬ Own os σ a → (fun a => if Own os σ a then none else S' a) a = S' a := fun a z => if_neg z
  have h3 : ∀ a, Own os σ a → (fun a => if Own os σ a then none else S' a) a = none := fun a z => if_pos z
  have s2 : Same S (fun a => if Own os σ a then none else S' a) := fun a o e => by
    have no : ¬ Own os σ a := fun z => by rw [(r.owned z).1] at e; cases e
    rw [h2 a no]
    exact x.s a o (lk.s a o e)
  have sh : Same (fun a => if Own os σ a then none else S' a) H' := fun a o e => by
    by_cases z : Own os σ a
    · rw [h3 a z] at e; cases e
    · rw [h2 a z] at e; exact x.sh a o e
  have keep : ∀ a o, Own os σ a → H a = some o → H' a = some o := fun a o z e => x.sh a o (x.s a o ((lk.own a z).trans e))
  refine ⟨_, h2, h3, ⟨sh, r.len, fun i v d e1 e2 => ?_, r.sep⟩, ⟨⟨s2, sh, fun a o e n no => ⟨?_, ?_⟩, x.there⟩, fun a q => .inl q⟩⟩
  · have q := r.slot i v d e1 e2
    cases ho : os.getD i false <;> rw [ho] at q <;> cases v <;> cases d <;> simp only [SlotAt] at q ⊢
    · exact q.mono s2
    · rename_i v d
      obtain ⟨a, ea, na, q⟩ := q
      subst ea
      have own : Own os σ a := ⟨i, ho, e1⟩
      obtain ⟨o, eh, bd⟩ := q
      exact ⟨a, rfl, h3 a own, o, keep a _ own eh, bd.mono s2⟩
  · exact (x.fr a o e ((lk.out a no).trans n) fun z => own_nil z).1
  · exact (h2 a no).trans (x.fr a o e ((lk.out a no).trans n) fun z => own_nil z).2
end
section
variable {X : Cx} {W : WX} {os os1 os2 : Os} {e : Expr} {es : List Expr} {f : Rho → Out (D × Rho)} {pos p : Pos}
def ePeekL (f : Rho → Out (D × Rho)) : Rho → Out (D × Rho) := fun ρ => (f ρ).bind fun p => match p.1 with
  | .lst ds => if tokL ds = true then .ok (.lst ds, ρ) else .stuck
  | _ => .stuck
/-- an expression that turns nothing and gives a new list of such -/
theorem ve_peekL (h : VE X W [] e f os1 true) (hos : os1 = [] := by rfl) : VE X W os e (ePeekL f) os true := by
  subst hos
  obtain ⟨t, p, k⟩ := h
  refine ⟨t, p, fun S σ H ρ Q rel P => ?_⟩
  obtain ⟨S1, lk, rel1⟩ := freezeAll rel
  refine k S1 σ H ρ Q rel1 ?_
  unfold ePeekL at P
  cases h : f ρ with
  | exc c fs => rw [h] at P; exact fun S' H' cls dd x q => P S' H' cls dd (lk.exc x) q
  | stuck => rw [h] at P; exact P.elim
  | ok z =>
    obtain ⟨d, ρ'⟩ := z
    rw [h] at P
    cases d with
    | lst ds =>
      have P : Post X W S H os σ os (RV X.K true) Q (if tokL ds = true then .ok (.lst ds, ρ) else .stuck) := P
      split at P
      · rename_i hf
        intro v S' H' st _ hv
        obtain ⟨S2, h2, h3, rel2, st2⟩ := lk.backT rel st.ext
        obtain ⟨⟨a, rfl, na, o, ea, bd⟩, fr⟩ := (show OwnAt X.K S' H' v (.lst ds) ∧ ∀ a, v = .ref a → H a = none from hv)
        have no : ¬ Own os σ a := fun z => by
          obtain ⟨o, d, eh, _⟩ := rel.ownBody z
          rw [fr a rfl] at eh; cases eh
        cases bd with
        | lst z r => exact P _ S2 H' st2 rel2 ⟨⟨a, rfl, (h2 a no).trans na, _, ea, .lst z (tokL_drop (lk.noTup rel st.ext.s) h2 r hf)⟩, fr⟩
      · exact P.elim
    | _ => exact P.elim
/-! a call whose turned argument, the k-th, is a new list or dict -/
def RLC (K : PySem.W.Frag) (n k : Nat) : RR (List D) (List V) := fun H S' H' vs ds => vs.length = n ∧ ds.length = n ∧ (∃ u du, vs[k]? = some u ∧ ds[k]? = some du ∧ OwnAt K S' H' u du ∧ ∀ a, u = .ref a → H a = none) ∧ ∀ j d, j ≠ k → ds[j]? = some d → ∃ v, vs[j]? = some v ∧ At K S' v d
theorem RLC.ok {K : PySem.W.Frag} {n k : Nat} : (RLC K n k).Ok := fun H H1 S' H' b d h q => by
  obtain ⟨q1, q2, ⟨u, du, q3, q4, q5, q6⟩, q7⟩ := q
  exact ⟨q1, q2, ⟨u, du, q3, q4, q5, fun a e => h a (q6 a e)⟩, q7⟩
end
end SW

set_option maxRecDepth 100000
/-! SW40: x[e] = a new list; x[y][z] = u: a store into a list within an owned list. -/
namespace SW
open PySem PySem.Spec PyProof.Rows L2

section
variable {X : Cx} {W : WX} {L : Lc} {os osN : Os} {e ie : Expr} {rest : List Stmt} {f fi : Rho → Out (D × Rho)} {g : Rho → Out Fl} {pos pos2 ps ps2 ps3 px px2 py pz pu : Pos}
end
end SW

set_option maxRecDepth 100000
/-! SW41: {k: v, ..}: a dict display whose keys are tuples. -/
namespace SW
open PySem PySem.Spec PyProof.Rows L2
section
variable {prog : Program} {w : World} {A : Around} {E : Value → Shared → Prop} {s : Shared} {K : Type} [DecidableEq K] {knd : HeapKind prog w K}
end
section
variable {X : Cx} {pins : List (Addr × Obj)} {σ : L2.St} {H : Hp} {s : Shared}
end
/-! the judgement -/
def flatP : List (V × V) → List V
  | [] => []
  | p :: r => p.1 :: p.2 :: flatP r
def RP (K : PySem.W.Frag) (n : Nat) : RR (List D) (List (V × V)) := fun _ S' _ ps ds => AtL K S' (flatP ps) ds ∧ ps.length = n
theorem RP.ok {K : PySem.W.Frag} {n : Nat} : (RP K n).Ok := fun _ _ _ _ _ _ _ q => q
section
variable {X : Cx} {W : WX} {os os1 os2 os3 : Os} {pos : Pos} {keys : List (Option Expr)} {values : List Expr} {k v : Expr} {f1 f2 : Rho → Out (D × Rho)} {g : Rho → Out (List D × Rho)}
end
end SW

set_option maxRecDepth 100000
/-! SW42: x = [..] read off what is owned, as a look. -/
namespace SW
open PySem PySem.Spec PyProof.Rows L2
section
variable {X : Cx} {W : WX} {L : Lc} {os os2 : Os} {f : Rho → Out (D × Rho)}
variable {tg iter elt : Expr} {ifs : List Expr} {scope : Scope} {own : List (Str × Nat)} {fi : Rho → Out (List D × Rho)} {b : D → Rho → Option Rho} {ch : List Nat} {tt : Rho → Out (Bool × Rho)} {fe : Rho → Out (D × Rho)} {pos : Pos}
end
end SW

set_option maxRecDepth 100000
/-! SW43: defs that turn their first two parameters. -/
namespace SW
open PySem PySem.Spec PyProof.Rows L2
abbrev os2 : Os := [true, true]
def m2 (ρ : Rho) : D × D := ((ρ.getD 0 none).getD .non, (ρ.getD 1 none).getD .non)
section
variable {P : Program} {w : World} {K : PySem.W.Frag} {mg : Str → Option Value} {base : Heap}
end
section
variable {X : Cx} {W : WX} {os : Os} {pos p : Pos}
end
end SW

set_option maxRecDepth 100000
set_option maxHeartbeats 2000000
/-! SW44: enumerate of a tuple. -/
namespace SW
open PySem PySem.Spec PyProof.Rows L2

section
variable {v : Value} {o : Obj} {B0 : Heap → Prop}
end
section
variable {X : Cx} {W : WX} {os os1 : Os} {e : Expr} {p pos : Pos}
end
end SW

set_option maxRecDepth 100000
/-! SW45: try: tests and calls, nothing stored; except C as n: y = n. -/
namespace SW
open PySem PySem.Spec PyProof.Rows L2
def RTr : RR D V := fun _ _ _ _ _ => True
section
variable {X : Cx} {W : WX} {os : Os} {pos : Pos} {e c : Expr} {f g : Rho → Out (D × Rho)} {gc : Rho → Out (Bool × Rho)} {a b : List Stmt}
theorem RTr.ok : RTr.Ok := fun _ _ _ _ _ _ _ q => q
end
section
variable {X : Cx} {W : WX} {L : Lc} {os : Os} {pos : Pos}
end
end SW

set_option maxRecDepth 100000
/-! SW46: an owned name compared with what a call that turns another one tells: the name owns its own still. -/
namespace SW
open PySem PySem.Spec PyProof.Rows L2
section
variable {X : Cx} {W : WX} {os os1 : Os} {e2 : Expr} {f2 : Rho → Out (D × Rho)} {pos p : Pos}
end
end SW

set_option maxRecDepth 100000
/-! SW61: texts: str(a whole number), join, split, partition, strip(signs), slices, loops over signs, one sign in a text, int(text), list.insert, loops over an owned list. -/
namespace SW
open PySem PySem.Spec PyProof.Rows L2

/-! ### str(i), int(text) -/
def strI : List D → Option D
  | [.int i] => if i.natAbs.log2 < 1920 then some (.str (toString i)) else none
  | _ => none
section
variable {X : Cx}
theorem c_strI : CallD X (.type "str") strI := ⟨_, call_str_int, fun S H vs ds c Q sub ha e k => by
  unfold strI at e
  split at e
  · rename_i i
    split at e
    · rename_i hz
      cases e
      cases ha with
      | cons h t =>
        cases t
        cases h
        exact ⟨i, rfl, hz, k _ S H (Ext.refl sub) (.str _)⟩
    · cases e
  · cases e⟩
def intS : List D → Option D
  | [.str a] => if a.length ≤ 640 then (PySem.intText? a).map D.int else none
  | _ => none
theorem c_intS : CallD X (.type "int") intS := ⟨_, call_int_str, fun S H vs ds c Q sub ha e k => by
  unfold intS at e
  split at e
  · rename_i a
    split at e
    · rename_i hz
      cases hi : PySem.intText? a with
      | none => rw [hi] at e; cases e
      | some n =>
        rw [hi] at e
        cases e
        cases ha with
        | cons h t =>
          cases t
          cases h
          exact ⟨a, n, rfl, hi, hz, k _ S H (Ext.refl sub) (.int _)⟩
    · cases e
  · cases e⟩

/-! ### one sign in a text -/
def notInS : D → D → Option D
  | .str x, .str z => if x.cps.size = 1 then some (.bl (!decide (x.cps.getD 0 0 ∈ z.cps.toList))) else none
  | _, _ => none
theorem sign_of {x : Str} (h : x.cps.size = 1) : x = ⟨#[x.cps.getD 0 0]⟩ := by
  obtain ⟨⟨l⟩⟩ := x
  match l, h with
  | [c], _ => rfl
theorem o_notInS : Op2 X (compareOp .NotIn) notInS := ⟨_, op_notIn_sign, fun S H v w a b c Q sub ha hb e k => by
  unfold notInS at e
  split at e
  · rename_i x z
    split at e
    · rename_i hx
      cases e
      cases ha
      cases hb
      exact ⟨_, z, by rw [← sign_of hx], rfl, k _ S H (Ext.refl sub) (.bl _)⟩
    · cases e
  · cases e⟩
end

/-! ### methods of texts -/
def eTm (h : Str → D → Option D) (f g : Rho → Out (D × Rho)) : Rho → Out (D × Rho) := fun ρ => (f ρ).bind fun p => match p.1 with
  | .str a => (g p.2).bind fun q => (Out.of (h a q.1)).bind fun c => .ok (c, q.2)
  | _ => .stuck
def TmD (X : Cx) (id : String) (h : Str → D → Option D) (rr : Bool) : Prop :=
  ∃ r, MtR X id r ∧ ∀ S H a y b c Q, Same S H → At X.K S y b → h a b = some c → (∀ v S' H', Ext (fun _ => False) S H S' H' → RV X.K rr H S' H' v c → Q v H') → r (.str a) [y] H Q
section
variable {X : Cx} {W : WX} {L : Lc} {os os1 os2 os3 : Os} {e e1 e2 : Expr} {f f1 f2 : Rho → Out (D × Rho)} {pos p : Pos} {rr : Bool}
theorem post_ofR {g : Option D} {S H : Hp} {os : Os} {σ : Sg} {ρ : Rho} {Q : VK} (P : Post X W S H os σ os (RV X.K rr) Q ((Out.of g).bind fun c => .ok (c, ρ))) (rel : Rel X.K S H os σ ρ) :
    ∃ c, g = some c ∧ ∀ v S' H', Ext (fun _ => False) S H S' H' → RV X.K rr H S' H' v c → Q v H' := by
  cases g with
  | none => exact P.elim
  | some c => exact ⟨c, rfl, fun v S' H' x hat => P v S' H' (Stp.of_ext x) (rel.ext0 x) hat⟩
theorem ve_tm {id : String} {name : Str} {apos cpos : Pos} {h : Str → D → Option D} (hm : TmD X id h rr) (slot : Slot "str" name id) (ty : typeOf (.builtin id) = pure (.type "method_descriptor"))
    (ha : VE X W os e f os1 false) (hb : VE X W os1 e2 f2 os2 false)
    (hs : starEach [e2] X.env = [(false, eval e2 X.env)] := by rfl) (hbase : attributeBase e name X.env (eval e X.env) = eval e X.env := by rfl) (hline : (apos.endLine == cpos.line) = true := by rfl) :
    VE X W os (.Call (.Attribute e name apos) [e2] [] cpos) (eTm h f f2) os2 rr := by
  obtain ⟨ta, pa, ka⟩ := ha
  obtain ⟨tb, pb, kb⟩ := hb
  obtain ⟨r, rule, sem⟩ := hm
  refine ⟨_, pe_m1 slot ty rule pa pb hs hbase hline, fun S σ H ρ Q rel P => ?_⟩
  refine ka S σ H ρ _ rel (Post.seq P (fun z => z) (fun c fs p => p) fun d ρ1 v S1 H1 st1 rel1 q1 P1 => ?_)
  have P1 := P1.step RV.ok st1
  cases d with
  | str a =>
    dsimp only at P1
    have q1 : At X.K S1 v (.str a) := q1
    cases q1
    refine ⟨⟨a, rfl⟩, ?_⟩
    refine kb S1 σ H1 ρ1 _ rel1 (Post.seq P1 (fun z => z) (fun c fs p => p) fun d2 ρ2 v2 S2 H2 st2 rel2 q2 P2 => ?_)
    obtain ⟨c, hc, k⟩ := post_ofR (P2.step RV.ok st2) rel2
    exact sem S2 H2 a v2 d2 c Q rel2.sub q2 hc k
  | _ => exact P1.elim

def splitD (a : Str) : D → Option D
  | .str b => if (b.length == 0) = false ∧ a.length + 2 ≤ sizeLine ∧ (Txt.split a b).length ≤ sizeLine then some (.lst ((Txt.split a b).map D.str)) else none
  | _ => none
theorem atL_strs {K : PySem.W.Frag} {S : Hp} : ∀ ys : List Str, AtL K S (ys.map V.str) (ys.map D.str)
  | [] => .nil
  | y :: ys => .cons (.str y) (atL_strs ys)
theorem tm_split : TmD X "str.split" splitD true := ⟨_, mt_split, fun S H a y b c Q sub hy e k => by
  unfold splitD at e
  split at e
  · rename_i z
    split at e
    · rename_i hz
      cases e
      cases hy
      refine ⟨a, z, rfl, rfl, hz.1, hz.2.1, fun p np => ?_⟩
      have x := Ext.newO (O := fun _ => False) (o := .lst ((Txt.split a z).map V.str)) sub np
      exact k _ S _ x ⟨.mkL (sub.free np) upd_same (by rw [List.length_map]; exact hz.2.2) (atL_strs _), fun a e => by cases e; exact np⟩
    · cases e
  · cases e⟩
def partD (a : Str) : D → Option D
  | .str b => if (b.length == 0) = false ∧ a.length ≤ sizeLine then some (.tup [.str (Txt.partition a b).1, .str (Txt.partition a b).2.1, .str (Txt.partition a b).2.2]) else none
  | _ => none
theorem three_ok : 3 ≤ sizeLine := by decide
theorem tm_part : TmD X "str.partition" partD false := ⟨_, mt_partition, fun S H a y b c Q sub hy e k => by
  unfold partD at e
  split at e
  · rename_i z
    split at e
    · rename_i hz
      cases e
      cases hy
      refine ⟨a, z, rfl, rfl, hz.1, hz.2, fun p np => ?_⟩
      have x := Ext.new (O := fun _ => False) (o := .tup [.str (Txt.partition a z).1, .str (Txt.partition a z).2.1, .str (Txt.partition a z).2.2]) sub np
      exact k _ _ _ x (At.tup (.inl (.inl upd_same)) three_ok (.cons (.str _) (.cons (.str _) (.cons (.str _) .nil))))
    · cases e
  · cases e⟩
def strsOf : List D → Option (List Str)
  | [] => some []
  | .str x :: ds => (strsOf ds).map fun xs => x :: xs
  | _ => none
theorem strsOf_map {K : PySem.W.Frag} {S : Hp} : ∀ {vs : List V} {ds : List D} {ys : List Str}, AtL K S vs ds → strsOf ds = some ys → vs = ys.map V.str
  | _, [], ys, h, e => by cases h; cases e; rfl
  | _, .str x :: ds, ys, h, e => by
    cases h with
    | cons h t =>
      cases h
      unfold strsOf at e
      cases e2 : strsOf ds with
      | none => rw [e2] at e; cases e
      | some xs =>
        rw [e2] at e
        cases e
        rw [strsOf_map t e2]
        rfl
  | _, .non :: _, _, _, e => by cases e
  | _, .bl _ :: _, _, _, e => by cases e
  | _, .int _ :: _, _, _, e => by cases e
  | _, .tup _ :: _, _, _, e => by cases e
  | _, .lst _ :: _, _, _, e => by cases e
  | _, .dct _ :: _, _, _, e => by cases e
  | _, .ins _ _ :: _, _, _, e => by cases e
  | _, .exc _ _ :: _, _, _, e => by cases e
  | _, .scr _ :: _, _, _, e => by cases e
  | _, .ty _ :: _, _, _, e => by cases e
theorem strsOf_strs : ∀ ys : List Str, strsOf (ys.map D.str) = some ys
  | [] => rfl
  | y :: ys => by
    show (strsOf (ys.map D.str)).map _ = _
    rw [strsOf_strs ys]
    rfl
def joinOk (a : Str) (ys : List Str) : Bool := decide ((ys.map (·.length)).sum + ys.length * a.length ≤ 16777216)
def joinD (a : Str) : D → Option D
  | .lst ds => match strsOf ds with
    | some ys => if joinOk a ys = true then some (.str (Txt.join a ys)) else none
    | none => none
  | _ => none
theorem tm_join : TmD X "str.join" joinD false := ⟨_, mt_join, fun S H a y b c Q sub hy e k => by
  unfold joinD at e
  split at e
  · rename_i ds
    split at e
    · rename_i ys hs
      split at e
      · rename_i hz
        cases e
        cases hy with
        | lst h z r =>
          have ev := strsOf_map r hs
          subst ev
          exact ⟨a, _, ys, rfl, rfl, .inl (.of (sub _ _ h)), of_decide_eq_true hz, k _ S H (Ext.refl sub) (At.str _)⟩
      · cases e
    · cases e
  · cases e⟩

/-! ### slices of texts, loops over signs -/
def sliceS : D → Option Int → Option Int → Option D
  | .str z, lo, hi => if z.length ≤ sizeLine then some (.str (cutS z lo hi)) else none
  | _, _, _ => none
def eSliceS (f : Rho → Out (D × Rho)) (fl fh : Rho → Out (Option Int × Rho)) : Rho → Out (D × Rho) := fun ρ =>
  (f ρ).bind fun p => (fl p.2).bind fun l => (fh l.2).bind fun h => (Out.of (sliceS p.1 l.1 h.1)).bind fun c => .ok (c, h.2)
theorem ve_sliceS {lo hi : Option Expr} {fl fh : Rho → Out (Option Int × Rho)} {p2 : Pos} (ha : VE X W os e f os1 false) (hl : VO X W os1 lo fl os2) (hh : VO X W os2 hi fh os3) : VE X W os (.Subscript e (.Slice lo hi none p2) pos) (eSliceS f fl fh) os3 false := by
  obtain ⟨ta, pa, ka⟩ := ha
  obtain ⟨tl, pl, kl⟩ := hl
  obtain ⟨th, ph, kh⟩ := hh
  refine ⟨_, pe_slice sl_str pa pl ph, fun S σ H ρ Q rel P => ?_⟩
  refine ka S σ H ρ _ rel (Post.seq P (fun z => z) (fun c fs p => p) fun d ρ1 v S1 H1 st1 rel1 q1 P1 => ?_)
  have P1 := P1.step RV.ok st1
  refine kl S1 σ H1 ρ1 _ rel1 (Post.seq P1 (fun z => z) (fun c fs p => p) fun l ρ2 v2 S2 H2 st2 rel2 q2 P2 => ?_)
  have P2 := P2.step RV.ok st2
  refine kh S2 σ H2 ρ2 _ rel2 (Post.seq P2 (fun z => z) (fun c fs p => p) fun h ρ3 v3 S3 H3 st3 rel3 q3 P3 => ?_)
  cases q2; cases q3
  obtain ⟨c, hc, k⟩ := post_of (P3.step RV.ok st3) rel3
  have q1 : At X.K S1 v d := q1
  cases d with
  | str z =>
    unfold sliceS at hc
    dsimp only at hc
    split at hc
    · rename_i hz
      cases hc
      cases q1
      exact ⟨z, rfl, hz, k _ S3 H3 (Ext.refl rel3.sub) (.str _)⟩
    · cases hc
  | _ => cases hc
def signsD (x : Str) : List D := x.cps.toList.map fun c => D.str ⟨#[c]⟩
def iSigns (f : Rho → Out (D × Rho)) : Rho → Out (List D × Rho) := fun ρ => (f ρ).bind fun p => match p.1 with
  | .str x => if x.cps.size ≤ sizeLine then .ok (signsD x, p.2) else .stuck
  | _ => .stuck
theorem itAt_str {K : PySem.W.Frag} {S : Hp} {x : Str} (z : x.cps.size ≤ sizeLine) : ItAt K S (Its x) (signsD x) := ⟨by unfold signsD; rw [List.length_map, Array.length_toList]; exact z, fun i S' H' s1 s2 => by
  refine ⟨fun hi => by unfold signsD at hi; rw [List.length_map, Array.length_toList] at hi; exact hi, fun d hd => ?_⟩
  unfold signsD at hd
  rw [List.getElem?_map] at hd
  cases hc : x.cps.toList[i]? with
  | none => rw [hc] at hd; cases hd
  | some c =>
    rw [hc] at hd
    cases hd
    rw [Array.getElem?_toList] at hc
    have hi : i < x.cps.size := (Array.getElem?_eq_some_iff.mp hc).1
    refine ⟨hi, fun v H2 y => ?_⟩
    obtain ⟨rfl, c', e1, rfl⟩ := y
    rw [hc] at e1
    cases e1
    exact ⟨S', Ext.refl s2, .str _⟩⟩
theorem vi_signs {tg : Expr} (he : VE X W os e f os1 false) : VI X W os tg e (iSigns f) os1 := by
  obtain ⟨t, pt, kt⟩ := he
  refine ⟨_, pi_str pt, fun S σ H ρ R rel P => ?_⟩
  refine kt S σ H ρ _ rel ?_
  cases hf : f ρ with
  | stuck => unfold iSigns at P; rw [hf] at P; exact P.elim
  | exc c fs => unfold iSigns at P; rw [hf] at P; exact P
  | ok z =>
    obtain ⟨d, ρ1⟩ := z
    unfold iSigns at P
    rw [hf] at P
    intro v S1 H1 st1 rel1 q1
    cases d with
    | str x =>
      have P : Post X W S H os σ os1 (RI X.K) R (if x.cps.size ≤ sizeLine then .ok (signsD x, ρ1) else .stuck) := P
      split at P
      · rename_i hz
        cases (show At X.K S1 v (.str x) from q1)
        exact ⟨x, rfl, P _ S1 H1 st1 rel1 (itAt_str hz)⟩
      · exact P.elim
    | _ => exact P.elim

end

/-! ### a loop over an owned list that its body leaves as long as it is -/
def forO (i n : Nat) (b : D → Rho → Option Rho) (g : Rho → Out Fl) : Nat → Rho → Out Fl
  | 0, ρ => match ρ.getD i none with
    | some (.lst ds) => if ds.length = n then .ok (.nx ρ) else .stuck
    | _ => .stuck
  | m + 1, ρ => match ρ.getD i none with
    | some (.lst ds) => if ds.length = n then (match ds[n - (m + 1)]? with
      | none => .stuck
      | some x => match b x ρ with
        | none => .stuck
        | some ρ1 => (g ρ1).bind fun y => match y with
          | .nx ρ2 => forO i n b g m ρ2
          | .ct ρ2 => forO i n b g m ρ2
          | .bk ρ2 => .ok (.nx ρ2)
          | .rt d ρ2 => .ok (.rt d ρ2)) else .stuck
    | _ => .stuck
def sForO (i : Nat) (b : D → Rho → Option Rho) (g : Rho → Out Fl) : Rho → Out Fl := fun ρ => match ρ.getD i none with
  | some (.lst ds) => forO i ds.length b g ds.length ρ
  | _ => .stuck
/-- a body that leaves the owned list alone: the loop is the loop over the list -/
theorem forO_forL {i : Nat} {ds : List D} {b : D → Rho → Option Rho} {g : Rho → Out Fl} (J : Rho → Prop) (hJ : ∀ ρ, J ρ → ρ.getD i none = some (.lst ds))
    (step : ∀ x ρ ρ1, x ∈ ds → J ρ → b x ρ = some ρ1 → ∀ ρ2, g ρ1 = .ok (.nx ρ2) ∨ g ρ1 = .ok (.ct ρ2) → J ρ2) :
    ∀ (m : Nat) (ρ : Rho), m ≤ ds.length → J ρ → forO i ds.length b g m ρ = forL b g (ds.drop (ds.length - m)) ρ
  | 0, ρ, hm, hj => by
    unfold forO
    rw [hJ ρ hj]
    simp [forL]
  | m + 1, ρ, hm, hj => by
    have hlt : ds.length - (m + 1) < ds.length := by omega
    rw [List.drop_eq_getElem_cons hlt]
    unfold forO forL
    rw [hJ ρ hj]
    dsimp only
    rw [if_pos rfl, List.getElem?_eq_getElem hlt]
    dsimp only
    cases eb : b ds[ds.length - (m + 1)] ρ with
    | none => rfl
    | some ρ1 =>
      dsimp only
      have e1 : ds.length - (m + 1) + 1 = ds.length - m := by omega
      rw [e1]
      cases eg : g ρ1 with
      | stuck => rfl
      | exc c fs => rfl
      | ok y =>
        cases y with
        | nx ρ2 => exact forO_forL J hJ step m ρ2 (by omega) (step _ ρ ρ1 (List.getElem_mem hlt) hj eb ρ2 (.inl eg))
        | ct ρ2 => exact forO_forL J hJ step m ρ2 (by omega) (step _ ρ ρ1 (List.getElem_mem hlt) hj eb ρ2 (.inr eg))
        | bk ρ2 => rfl
        | rt d ρ2 => rfl
theorem sForO_forL {i : Nat} {ds : List D} {b : D → Rho → Option Rho} {g : Rho → Out Fl} {ρ : Rho} (J : Rho → Prop) (hJ : ∀ ρ, J ρ → ρ.getD i none = some (.lst ds))
    (step : ∀ x ρ ρ1, x ∈ ds → J ρ → b x ρ = some ρ1 → ∀ ρ2, g ρ1 = .ok (.nx ρ2) ∨ g ρ1 = .ok (.ct ρ2) → J ρ2) (h : J ρ) : sForO i b g ρ = forL b g ds ρ := by
  unfold sForO
  rw [hJ ρ h]
  dsimp only
  rw [forO_forL J hJ step ds.length ρ (Nat.le_refl _) h]
  simp

def fxO (fx : Os) (i : Nat) : Os := (List.range (max fx.length (i + 1))).map fun j => fx.getD j false || j == i
theorem fxO_get {fx : Os} {i j : Nat} : (fxO fx i).getD j false = (fx.getD j false || j == i) := by
  unfold fxO
  by_cases h : j < max fx.length (i + 1)
  · simp [List.getD, h]
  · have h1 : fx.length ≤ j := by omega
    have h2 : j ≠ i := by omega
    simp [List.getD, h, h1, h2]
theorem fxO_self {fx : Os} {i : Nat} : (fxO fx i).getD i false = true := by rw [fxO_get]; simp
theorem fxO_of {fx : Os} {i j : Nat} (h : fx.getD j false = true) : (fxO fx i).getD j false = true := by rw [fxO_get, h]; rfl
section
variable {X : Cx} {W : WX} {L : Lc} {os os1 os2 osN : Os} {pos px : Pos} {tg : Expr}
theorem FixOn.ofO {fx : Os} {i : Nat} {σ σ' : Sg} (f : FixOn (fxO fx i) σ σ') : FixOn fx σ σ' := ⟨f.1, fun j h => f.2 j (fxO_of h)⟩
theorem vs_forO (i : Nat) {x : Str} {body : List Stmt} {b : D → Rho → Option Rho} {g : Rho → Out Fl} {ch : List Nat} (hp : PassesOwn (model X.prog X.w) X.A X.env X.xe)
    (hg : VG X os tg b ch os2) (hb : VSs X W ⟨fxO L.fx i, os, os, L.r⟩ os2 body g os) (hfx : ch.all (fun j => !(fxO L.fx i).getD j false) = true := by rfl)
    (ho : os.getD i false = true := by rfl) (hN : X.N[i]? = some x := by rfl) (hv : Vis X.env.scope x := by first | exact Or.inl rfl | exact Or.inr (Or.inl rfl) | exact Or.inr (Or.inr rfl))
    (hd : (x == ("__debug__" : Str)) = false := by decide) (hcd : (x == ("__classdict__" : Str)) = false := by decide) (hc : X.calm = true := by rfl) (hs : ∀ z, foldedSetIterable (.Name x px) X.env z = pure z := by intro _; rfl) :
    VS X W L os (.For tg (.Name x px) body [] pos) (sForO i b g) os := by
  obtain ⟨tg', pg, kg⟩ := hg
  obtain ⟨tb, pb, kb⟩ := hb
  refine ⟨_, ps_for hp hc (pi_list (pe_var hN hv hd hcd)) pg pb hs, fun S σ H ρ Ds rel P => ?_⟩
  unfold sForO at P
  cases hx : ρ.getD i none with
  | none => rw [hx] at P; exact P.elim
  | some d0 =>
    rw [hx] at P
    obtain ⟨w, ew, hown⟩ := rel.own (getD_some hx) ho
    obtain ⟨a, ea, na, q⟩ := hown
    subst ea
    obtain ⟨o, eh, bd⟩ := q
    cases bd with
    | @lst vs ds z rl =>
      have P : PostS X W L S H os σ os Ds (forO i ds.length b g ds.length ρ) := P
      generalize hn : ds.length = n at P
      refine ⟨.ref a, ew, a, rfl, ⟨vs, .of eh⟩, ?_⟩
      refine ⟨fun k m σ' H' => k + m = n ∧ ∃ S' ρ', FixOn (fxO L.fx i) σ σ' ∧ Rel X.K S' H' os σ' ρ' ∧ PostS X W L S' H' os σ' os Ds (forO i n b g m ρ'), ⟨n, by omega, S, ρ, FixOn.refl, rel, P⟩, ?_⟩
      rintro k m σ' H' ⟨hm, S', ρ', f1, rel', P'⟩
      have es : σ'[i]? = some (some (.ref a)) := (f1.2 i fxO_self).trans ew
      have cell : ∀ dd, ρ'.getD i none = some (.lst dd) → ∃ ws, H' a = some (.lst ws) ∧ AtL X.K S' ws dd := fun dd e => by
        obtain ⟨w', ew', hown'⟩ := rel'.own (getD_some e) ho
        rw [es] at ew'
        cases ew'
        obtain ⟨a', ea', na', o', eh', bd'⟩ := hown'
        cases ea'
        cases bd' with
        | @lst ws _ z' r' => exact ⟨ws, eh', r'⟩
      cases m with
      | zero =>
        refine .inl ⟨?_, ?_⟩
        · unfold forO at P'
          cases e : ρ'.getD i none with
          | none => rw [e] at P'; exact P'.elim
          | some d1 =>
            rw [e] at P'
            cases d1 with
            | lst dd =>
              have P' : PostS X W L S' H' os σ' os Ds (if dd.length = n then .ok (.nx ρ') else .stuck) := P'
              split at P'
              · rename_i hl
                obtain ⟨ws, e1, r1⟩ := cell dd e
                exact ⟨ws, .of e1, by rw [r1.length]; omega⟩
              · exact P'.elim
            | _ => exact P'.elim
        · unfold forO at P'
          cases e : ρ'.getD i none with
          | none => rw [e] at P'; exact P'.elim
          | some d1 =>
            rw [e] at P'
            cases d1 with
            | lst dd =>
              have P' : PostS X W L S' H' os σ' os Ds (if dd.length = n then .ok (.nx ρ') else .stuck) := P'
              split at P'
              · exact P'.fin rel'
              · exact P'.elim
            | _ => exact P'.elim
      | succ m =>
        unfold forO at P'
        cases e : ρ'.getD i none with
        | none => rw [e] at P'; exact P'.elim
        | some d1 =>
          rw [e] at P'
          cases d1 with
          | lst dd =>
            obtain ⟨ws, e1, r1⟩ := cell dd e
            by_cases hl : dd.length = n
            · have P' : PostS X W L S' H' os σ' os Ds (if dd.length = n then (match dd[n - (m + 1)]? with
                | none => .stuck
                | some x => match b x ρ' with
                  | none => .stuck
                  | some ρ1 => (g ρ1).bind fun y => match y with
                    | .nx ρ2 => forO i n b g m ρ2
                    | .ct ρ2 => forO i n b g m ρ2
                    | .bk ρ2 => .ok (.nx ρ2)
                    | .rt d ρ2 => .ok (.rt d ρ2)) else .stuck) := P'
              rw [if_pos hl] at P'
              have hk : n - (m + 1) = k := by omega
              have hlt : k < dd.length := by omega
              rw [hk, List.getElem?_eq_getElem hlt] at P'
              dsimp only at P'
              obtain ⟨v, ev, hat⟩ := r1.get (List.getElem?_eq_getElem hlt)
              refine .inr ⟨⟨ws, v, .of e1, ev⟩, fun σ'' H'' => ∃ S'' ρ'', FixOn (fxO L.fx i) σ σ'' ∧ Rel X.K S'' H'' os σ'' ρ'' ∧ PostS X W L S'' H'' os σ'' os Ds (forO i n b g m ρ''), fun σ'' H'' ⟨S'', ρ'', p1, p2, p3⟩ => ⟨m, by omega, by omega, S'', ρ'', p1, p2, p3⟩, fun y H2 hy => ?_⟩
              obtain ⟨rfl, fy⟩ := hy
              have ey := (fy ws (.of e1)).symm.trans ev
              cases ey
              cases eb : b dd[k] ρ' with
              | none => rw [eb] at P'; exact P'.elim
              | some ρ2 =>
                rw [eb] at P'
                refine kg S' σ' H2 ρ' v _ ρ2 _ rel' hat eb fun σ3 rel3 f3 o3 => ?_
                have st3 : Stp os σ' S' H2 os2 σ3 S' H2 := ⟨Ext.refl rel'.sub, fun a q => .inl (o3 a q)⟩
                have fx3 := f3.fix hfx
                refine kb S' σ3 H2 ρ2 _ rel3 ?_
                have P' : PostS X W L S' H2 os2 σ3 os Ds ((g ρ2).bind fun y => match y with
                  | .nx ρ2 => forO i n b g m ρ2
                  | .ct ρ2 => forO i n b g m ρ2
                  | .bk ρ2 => .ok (.nx ρ2)
                  | .rt d ρ2 => .ok (.rt d ρ2)) := PostS.step P' st3 fx3.ofO
                cases hgr : g ρ2 with
                | stuck => rw [hgr] at P'; exact P'
                | exc c fs => rw [hgr] at P'; exact P'
                | ok z =>
                  rw [hgr] at P'
                  cases z with
                  | nx ρ4 => exact fun σ4 S4 H4 s4 f4 r4 => ⟨S4, ρ4, f1.trans (fx3.trans f4), r4, PostS.step P' s4 f4.ofO⟩
                  | ct ρ4 => exact fun σ4 S4 H4 s4 f4 r4 => ⟨S4, ρ4, f1.trans (fx3.trans f4), r4, PostS.step P' s4 f4.ofO⟩
                  | bk ρ4 => exact fun σ4 S4 H4 s4 f4 r4 => P' σ4 S4 H4 s4 f4.ofO r4
                  | rt d ρ4 =>
                    refine fun v' S4 H4 x4 r4 h4 => P' v' S4 H4 x4 ?_ fun j u hj hs' => h4 j u (fxO_of hj) hs'
                    unfold RetAt at r4 ⊢
                    split
                    · rename_i hr
                      have hr' : L.r = true := hr
                      rw [if_pos hr'] at r4
                      exact ⟨r4.1, r4.2.1, fun j hj => r4.2.2 j (fxO_of hj)⟩
                    · rename_i hr
                      have hr' : ¬ L.r = true := hr
                      rw [if_neg hr'] at r4
                      exact r4
            · have P' : PostS X W L S' H' os σ' os Ds (if dd.length = n then _ else .stuck) := P'
              rw [if_neg hl] at P'
              exact P'.elim
          | _ => exact P'.elim
    | _ => exact P.elim
end
end SW

set_option maxRecDepth 100000
set_option maxHeartbeats 0
namespace Lw
open PySem PySem.Spec PyProof.Rows L2 SW
def k_FIGURES : D := .str "0123456789"

def k_MOST_FIGURES : D := .int 9

def k_MOST_WAYS : D := .int 5

abbrev nn_figures_in : List Str := ["text", "sign"]
def b_figures_in : Rho → Out Fl := (sSeq (sIf (tOrF (tVal (eOp2 eqD (eVar 0) (eCon (.str "")))) (tOrF (tVal (eOp2 gtA (eArg lenA (aCons (eVar 0) aNil)) (eCon k_MOST_FIGURES))) (tVal (eOp2 neD (eComp [1] (iSigns (eVar 0)) (gName 1) (tVal (eOp2 notInS (eVar 1) (eCon k_FIGURES))) (eVar 1)) (eLst aNil))))) (sRet (eCon .non)) sSkip) (sSeq (sIf (tAndF (tVal (eOp2 eqD (eOp2 ixA (eVar 0) (eCon (.int 0))) (eCon (.str "0")))) (tVal (eOp2 neD (eVar 0) (eCon (.str "0"))))) (sRet (eCon .non)) sSkip) (sRet (eArg intS (aCons (eVar 0) aNil)))))
def m_figures_in : List D → Out (D × D) := runF 2 none b_figures_in

abbrev nn_whole_in : List Str := ["text", "number"]
def b_whole_in : Rho → Out Fl := (sSeq (sIf (tVal (eOp2 eqD (eSliceS (eVar 0) oNone (oSome (eCon (.int 1)))) (eCon (.str "-")))) (sSeq (sSet 1 (eCall m_figures_in (aCons (eSliceS (eVar 0) (oSome (eCon (.int 1))) oNone) aNil))) (sSeq (sIf (tOrF (tVal (eOp2 isNon (eVar 1) (eCon .non))) (tVal (eOp2 eqD (eVar 1) (eCon (.int 0))))) (sRet (eCon .non)) sSkip) (sRet (eOp2 subD (eCon (.int 0)) (eVar 1))))) sSkip) (sRet (eCall m_figures_in (aCons (eVar 0) aNil))))
def m_whole_in : List D → Out (D × D) := runF 2 none b_whole_in

abbrev nn_is_whole : List Str := ["one"]
def b_is_whole : Rho → Out Fl := (sRet (eAndF (eArg isiD (aCons (eVar 0) (aCons (eCon (.ty .int)) aNil))) (eNotF (eArg isiD (aCons (eVar 0) (aCons (eCon (.ty .bool)) aNil))))))
def m_is_whole : List D → Out (D × D) := runF 1 none b_is_whole

abbrev nn_divisor : List Str := ["one", "other"]
def b_divisor : Rho → Out Fl := (sSeq (sSet 0 (eArg absD (aCons (eVar 0) aNil))) (sSeq (sSet 1 (eArg absD (aCons (eVar 1) aNil))) (sSeq (sWhile (fuelInt 1) (tVal (eOp2 neD (eVar 1) (eCon (.int 0)))) (sPar 0 1 (aCons (eVar 1) (aCons (eOp2 modD (eVar 0) (eVar 1)) aNil)))) (sRet (eVar 0)))))
def m_divisor : List D → Out (D × D) := runF 2 none b_divisor

abbrev nn_is_number : List Str := ["one"]
def b_is_number : Rho → Out Fl := (sSeq (sIf (tOrF (tNotF (tVal (eArg isiD (aCons (eVar 0) (aCons (eCon (.ty .tuple)) aNil))))) (tVal (eOp2 neD (eArg lenA (aCons (eVar 0) aNil)) (eCon (.int 2))))) (sRet (eCon (.bl false))) sSkip) (sSeq (sIf (tOrF (tNotF (tVal (eCall m_is_whole (aCons (eOp2 ixA (eVar 0) (eCon (.int 0))) aNil)))) (tNotF (tVal (eCall m_is_whole (aCons (eOp2 ixA (eVar 0) (eCon (.int 1))) aNil))))) (sRet (eCon (.bl false))) sSkip) (sRet (eAndF (eOp2 geA (eOp2 ixA (eVar 0) (eCon (.int 1))) (eCon (.int 1))) (eOp2 eqD (eCall m_divisor (aCons (eOp2 ixA (eVar 0) (eCon (.int 0))) (aCons (eOp2 ixA (eVar 0) (eCon (.int 1))) aNil))) (eCon (.int 1)))))))
def m_is_number : List D → Out (D × D) := runF 1 none b_is_number

abbrev nn_number_in : List Str := ["text", "number", "below", "top", "stroke", "bottom"]
def b_number_in : Rho → Out Fl := (sSeq (sBind (gTup 3 (gCons (gName 3) (gCons (gName 4) (gCons (gName 5) gNil)))) (eTm partD (eVar 0) (eCon (.str "/")))) (sSeq (sSet 1 (eCall m_whole_in (aCons (eVar 3) aNil))) (sSeq (sSet 2 (eCon (.int 1))) (sSeq (sIf (tVal (eOp2 eqD (eVar 4) (eCon (.str "/")))) (sSeq (sSet 2 (eCall m_figures_in (aCons (eVar 5) aNil))) (sIf (tOrF (tVal (eOp2 isNon (eVar 2) (eCon .non))) (tVal (eOp2 ltA (eVar 2) (eCon (.int 2))))) (sRet (eCon .non)) sSkip)) sSkip) (sSeq (sIf (tOrF (tVal (eOp2 isNon (eVar 1) (eCon .non))) (tNotF (tVal (eCall m_is_number (aCons (eTup (aCons (eVar 1) (aCons (eVar 2) aNil))) aNil))))) (sRet (eCon .non)) sSkip) (sRet (eTup (aCons (eVar 1) (aCons (eVar 2) aNil)))))))))
def m_number_in : List D → Out (D × D) := runF 6 none b_number_in

abbrev nn_way_in : List Str := ["text", "count", "number"]
def b_way_in : Rho → Out Fl := (sSeq (sSet 2 (eCall m_figures_in (aCons (eVar 0) aNil))) (sSeq (sIf (tOrF (tVal (eOp2 isNon (eVar 2) (eCon .non))) (tVal (eOp2 geA (eVar 2) (eVar 1)))) (sRet (eCon .non)) sSkip) (sRet (eVar 2))))
def m_way_in : List D → Out (D × D) := runF 3 none b_way_in

abbrev nn_word_in : List Str := ["text", "count", "ways", "one"]
def b_word_in : Rho → Out Fl := (sSeq (sIf (tVal (eOp2 eqD (eVar 0) (eCon (.str "e")))) (sRet (eTup aNil)) sSkip) (sSeq (sSet 2 (eComp [3] (iSeqA (eTm splitD (eVar 0) (eCon (.str ".")))) (gName 3) tYesF (eCall m_way_in (aCons (eVar 3) (aCons (eVar 1) aNil))))) (sSeq (sIf (tOrF (tVal (eOp2 inA (eCon .non) (eVar 2))) (tVal (eOp2 gtA (eArg lenA (aCons (eVar 2) aNil)) (eCon k_MOST_WAYS)))) (sRet (eCon .non)) sSkip) (sRet (eArg tupleD (aCons (eVar 2) aNil))))))
def m_word_in : List D → Out (D × D) := runF 4 none b_word_in

abbrev nn_rank : List Str := ["word"]
def b_rank : Rho → Out Fl := (sRet (eTup (aCons (eArg lenA (aCons (eVar 0) aNil)) (aCons (eVar 0) aNil))))
def m_rank : List D → Out (D × D) := runF 1 none b_rank

abbrev nn_read_sum : List Str := ["text", "count", "numbers", "at", "term", "number", "word", "first", "sign", "last"]
def b_read_sum : Rho → Out Fl := (sSeq (sIf (tVal (eOp2 eqD (eVar 0) (eCon (.str "0")))) (sRet (eLst aNil)) sSkip) (sSeq (sSet 2 eDNew) (sSeq (sFor (iArg iEnum1 (aCons (eTm splitD (eVar 0) (eCon (.str " "))) aNil)) (gTup 2 (gCons (gName 3) (gCons (gName 4) gNil))) (sSeq (sBind (gTup 3 (gCons (gName 7) (gCons (gName 8) (gCons (gName 9) gNil)))) (eTm partD (eVar 4) (eCon (.str ":")))) (sSeq (sSet 5 (eCall m_number_in (aCons (eVar 7) aNil))) (sSeq (sSet 6 (eCall m_word_in (aCons (eVar 9) (aCons (eVar 1) aNil)))) (sSeq (sIf (tPeek (tOrF (tVal (eOp2 eqD (eVar 8) (eCon (.str "")))) (tOrF (tVal (eOp2 isNon (eVar 5) (eCon .non))) (tOrF (tVal (eOp2 eqD (eOp2 ixA (eVar 5) (eCon (.int 0))) (eCon (.int 0)))) (tOrF (tVal (eOp2 isNon (eVar 6) (eCon .non))) (tVal (eOp2 inA (eVar 6) (eVar 2)))))))) sStuck sSkip) (sSetA 2 (eVar 5) (eVar 6))))))) (sRet (eComp [6] (iSeqA (ePeekL (eSortK m_rank (eVar 2)))) (gName 6) tYesF (eTup (aCons (eVar 6) (aCons (eIxA 2 (eVar 6)) aNil))))))))
def m_read_sum : List D → Out (D × D) := runF 10 none b_read_sum

abbrev nn__law_well : List Str := ["_law_total", "_law_count", "_law_text", "_law_told", "_law_term"]
def b__law_well : Rho → Out Fl := (sSeq (sSet 3 (eCall m_read_sum (aCons (eVar 2) (aCons (eVar 1) aNil)))) (sSeq (sIf (tPeek (tOrF (tNotF (tVal (eArg isiD (aCons (eVar 3) (aCons (eCon (.ty .list)) aNil))))) (tVal (eOp2 neD (eVar 3) (eVar 0))))) (sRet (eCon (.bl false))) sSkip) (sSeq (sForO 3 (gName 4) (sIf (tOrF (tNotF (tVal (eArg isiD (aCons (eVar 4) (aCons (eCon (.ty .tuple)) aNil))))) (tOrF (tNotF (tVal (eArg isiD (aCons (eOp2 ixA (eVar 4) (eCon (.int 0))) (aCons (eCon (.ty .tuple)) aNil))))) (tNotF (tVal (eArg isiD (aCons (eOp2 ixA (eVar 4) (eCon (.int 1))) (aCons (eCon (.ty .tuple)) aNil))))))) (sRet (eCon (.bl false))) sSkip)) (sSeq (sExpr (eOwnM uAppend 3 (aCons (eTup (aCons (eTup aNil) (aCons (eTup (aCons (eCon (.int 7)) (aCons (eCon (.int 1)) aNil))) aNil))) aNil))) (sRet (eOp2 eqD (eCall m_read_sum (aCons (eVar 2) (aCons (eVar 1) aNil))) (eVar 0)))))))
def m__law_well : List D → Out (D × D) := runF 5 none b__law_well

abbrev nn__law_mixed : List Str := ["_law_cell", "_law_k", "_law_number"]
def b__law_mixed : Rho → Out Fl := (sSeq (sSet 2 (eOp2 addD (eOp2 addD (eOp2 repD (eOp2 addD (eOp2 modD (eVar 0) (eOp2 addD (eOp2 powD (eCon (.int 10)) (eCon (.int 18))) (eCon (.int 9)))) (eOp2 repD (eCon (.int 7)) (eVar 1))) (eCon (.int 739108512309184756019283746561))) (eOp2 repD (eCon (.int 7919)) (eVar 1))) (eCon (.int 1)))) (sSeq (sSet 2 (eOp2 modD (eOp2 repD (eVar 2) (eVar 2)) (eOp2 addD (eOp2 powD (eCon (.int 10)) (eCon (.int 60))) (eCon (.int 7))))) (sRet (eOp2 modD (eOp2 repD (eOp2 addD (eVar 2) (eCon (.int 40503))) (eOp2 addD (eVar 2) (eCon (.int 57)))) (eOp2 addD (eOp2 powD (eCon (.int 10)) (eCon (.int 60))) (eCon (.int 7)))))))
def m__law_mixed : List D → Out (D × D) := runF 3 none b__law_mixed

abbrev nn__law_purse : List Str := ["_law_cell", "_law_k"]
def b__law_purse : Rho → Out Fl := (sSeq (sIf (tVal (eOp2 geA (eVar 0) (eOp2 powD (eCon (.int 10)) (eCon (.int 18))))) (sRet (eLst (aCons (eOp2 subD (eVar 0) (eOp2 powD (eCon (.int 10)) (eCon (.int 18)))) (aCons (eCon (.int 0)) (aCons (eVar 1) aNil))))) sSkip) (sRet (eLst (aCons (eCall m__law_mixed (aCons (eVar 0) (aCons (eVar 1) aNil))) (aCons (eCon (.int 0)) (aCons (eOp2 addD (eOp2 modD (eVar 0) (eOp2 addD (eOp2 powD (eCon (.int 10)) (eCon (.int 18))) (eCon (.int 9)))) (eVar 1)) aNil))))))
def m__law_purse : List D → Out (D × D) := runF 2 none b__law_purse

abbrev nn__law_take : List Str := ["_law_purse_here", "_law_many", "_law_got"]
def b__law_take : Rho → Out Fl := (sSeq (sIf (tPeek (tVal (eOp2 ltA (eOp2 ixA (eVar 0) (eCon (.int 0))) (eVar 1)))) (sSeq (sSetA 0 (eOp2 addD (eIxA 0 (eCon (.int 1))) (eCon (.int 1))) (eCon (.int 1))) (sSetA 0 (eOp2 addD (eIxA 0 (eCon (.int 0))) (eOp2 repD (eVar 1) (eCall m__law_mixed (aCons (eIxA 0 (eCon (.int 2))) (aCons (eOp2 addD (eOp2 repD (eCon (.int 11)) (eIxA 0 (eCon (.int 1)))) (eCon (.int 5))) aNil))))) (eCon (.int 0)))) sSkip) (sSeq (sSet 2 (eOp2 modD (eIxA 0 (eCon (.int 0))) (eVar 1))) (sSeq (sSetA 0 (eOp2 fdivD (eIxA 0 (eCon (.int 0))) (eVar 1)) (eCon (.int 0))) (sRet (eVar 2)))))
def m__law_take : List D → Out (D × D) := runF 3 (some 0) b__law_take

abbrev nn__law_low : List Str := ["_law_top", "_law_bottom", "_law_one", "_law_other"]
def b__law_low : Rho → Out Fl := (sSeq (sSet 2 (eArg absD (aCons (eVar 0) aNil))) (sSeq (sSet 3 (eVar 1)) (sSeq (sWhile (fuelInt 3) (tVal (eOp2 neD (eVar 3) (eCon (.int 0)))) (sPar 2 3 (aCons (eVar 3) (aCons (eOp2 modD (eVar 2) (eVar 3)) aNil)))) (sRet (eTup (aCons (eOp2 fdivD (eVar 0) (eVar 2)) (aCons (eOp2 fdivD (eVar 1) (eVar 2)) aNil)))))))
def m__law_low : List D → Out (D × D) := runF 4 none b__law_low

abbrev nn__law_nine : List Str := ["_law_purse_here", "_law_way"]
def b__law_nine : Rho → Out Fl := (sSeq (sSet 1 (eCallM m__law_take 0 0 (aHoleQ 0 (aCons (eCon (.int 6)) aNil)))) (sSeq (sIf (tVal (eOp2 ltA (eVar 1) (eCon (.int 3)))) (sRet (eOp2 ixA (eLst (aCons (eTup (aCons (eCon (.int 0)) (aCons (eCon (.int 1)) aNil))) (aCons (eTup (aCons (eCon (.int 1)) (aCons (eCon (.int 1)) aNil))) (aCons (eTup (aCons (eOp1 negD (eCon (.int 1))) (aCons (eCon (.int 1)) aNil))) aNil)))) (eVar 1))) sSkip) (sSeq (sIf (tVal (eOp2 ltA (eVar 1) (eCon (.int 5)))) (sRet (eCall m__law_low (aCons (eOp2 subD (eCallM m__law_take 0 0 (aHoleQ 0 (aCons (eCon (.int 39)) aNil))) (eCon (.int 19))) (aCons (eOp2 addD (eCon (.int 1)) (eOp2 repD (eCallM m__law_take 0 0 (aHoleQ 0 (aCons (eCon (.int 12)) aNil))) (eOp2 subD (eVar 1) (eCon (.int 3))))) aNil)))) sSkip) (sRet (eCall m__law_low (aCons (eOp2 addD (eOp2 subD (eCallM m__law_take 0 0 (aHoleQ 0 (aCons (eOp2 subD (eOp2 repD (eCon (.int 2)) (eOp2 powD (eCon (.int 10)) (eCon (.int 9)))) (eCon (.int 1))) aNil))) (eOp2 powD (eCon (.int 10)) (eCon (.int 9)))) (eCon (.int 1))) (aCons (eOp2 addD (eCon (.int 1)) (eCallM m__law_take 0 0 (aHoleQ 0 (aCons (eOp2 subD (eOp2 powD (eCon (.int 10)) (eCon (.int 9))) (eCon (.int 1))) aNil)))) aNil)))))))
def m__law_nine : List D → Out (D × D) := runF 2 (some 0) b__law_nine

abbrev nn__law_rank : List Str := ["_law_word"]
def b__law_rank : Rho → Out Fl := (sRet (eTup (aCons (eArg lenA (aCons (eVar 0) aNil)) (aCons (eVar 0) aNil))))
def m__law_rank : List D → Out (D × D) := runF 1 none b__law_rank

abbrev nn__law_sum : List Str := ["_law_purse_here", "_law_count", "_law_most", "_law_numbers", "_law_turn", "_law_word", "_law_number", "_law_k"]
def b__law_sum : Rho → Out Fl := (sSeq (sSet 3 eDNew) (sSeq (sFor (iRange (aCons (eCallM m__law_take 0 0 (aHoleQ 0 (aCons (eOp2 addD (eVar 2) (eCon (.int 1))) aNil))) aNil)) (gName 4) (sSeq (sSet 5 (eArg tupleD (aCons (eComp [7] (iRange (aCons (eCallM m__law_take 0 0 (aHoleQ 0 (aCons (eCon (.int 6)) aNil))) aNil)) (gName 7) tYesF (eCallM m__law_take 0 0 (aHoleQ 0 (aCons (eVar 1) aNil)))) aNil))) (sSeq (sSet 6 (eCallM m__law_nine 0 0 (aHoleQ 0 aNil))) (sIf (tVal (eOp2 neD (eOp2 ixA (eVar 6) (eCon (.int 0))) (eCon (.int 0)))) (sSetA 3 (eVar 6) (eVar 5)) sSkip)))) (sRet (eComp [5] (iSeqA (eSortK m__law_rank (eVar 3))) (gName 5) tYesF (eTup (aCons (eVar 5) (aCons (eOp2 ixA (eVar 3) (eVar 5)) aNil)))))))
def m__law_sum : List D → Out (D × D) := runF 8 (some 0) b__law_sum

abbrev nn_word_text : List Str := ["word", "way"]
def b_word_text : Rho → Out Fl := (sSeq (sIf (tVal (eOp2 eqD (eVar 0) (eTup aNil))) (sRet (eCon (.str "e"))) sSkip) (sRet (eTm joinD (eCon (.str ".")) (eComp [1] (iSeqA (eVar 0)) (gName 1) tYesF (eArg strI (aCons (eVar 1) aNil))))))
def m_word_text : List D → Out (D × D) := runF 2 none b_word_text

abbrev nn_number_text : List Str := ["number"]
def b_number_text : Rho → Out Fl := (sSeq (sIf (tVal (eOp2 eqD (eOp2 ixA (eVar 0) (eCon (.int 1))) (eCon (.int 1)))) (sRet (eArg strI (aCons (eOp2 ixA (eVar 0) (eCon (.int 0))) aNil))) sSkip) (sRet (eOp2 addD (eOp2 addD (eArg strI (aCons (eOp2 ixA (eVar 0) (eCon (.int 0))) aNil)) (eCon (.str "/"))) (eArg strI (aCons (eOp2 ixA (eVar 0) (eCon (.int 1))) aNil)))))
def m_number_text : List D → Out (D × D) := runF 1 none b_number_text

abbrev nn_sum_text : List Str := ["total", "word", "number"]
def b_sum_text : Rho → Out Fl := (sSeq (sIf (tVal (eOp2 eqD (eVar 0) (eLst aNil))) (sRet (eCon (.str "0"))) sSkip) (sRet (eTm joinD (eCon (.str " ")) (eComp [1, 2] (iSeqA (eVar 0)) (gTup 2 (gCons (gName 1) (gCons (gName 2) gNil))) tYesF (eOp2 addD (eOp2 addD (eCall m_number_text (aCons (eVar 2) aNil)) (eCon (.str ":"))) (eCall m_word_text (aCons (eVar 1) aNil)))))))
def m_sum_text : List D → Out (D × D) := runF 3 none b_sum_text

abbrev nn__law_at : List Str := ["_law_script", "_law_k"]
def b__law_at : Rho → Out Fl := (sSeq (sIf (tVal (eOp2 ltA (eVar 1) (eArg lenA (aCons (eVar 0) aNil)))) (sRet (eOp2 ixA (eVar 0) (eVar 1))) sSkip) (sRet (eOp2 addD (eOp2 repD (eCon (.int 3)) (eVar 1)) (eCon (.int 1)))))
def m__law_at : List D → Out (D × D) := runF 2 none b__law_at

abbrev nn__law_word_text : List Str := ["_law_word", "_law_way"]
def b__law_word_text : Rho → Out Fl := (sSeq (sIf (tVal (eOp2 eqD (eVar 0) (eTup aNil))) (sRet (eCon (.str "e"))) sSkip) (sRet (eTm joinD (eCon (.str ".")) (eComp [1] (iSeqA (eVar 0)) (gName 1) tYesF (eArg strI (aCons (eVar 1) aNil))))))
def m__law_word_text : List D → Out (D × D) := runF 2 none b__law_word_text

abbrev nn__law_number_text : List Str := ["_law_number"]
def b__law_number_text : Rho → Out Fl := (sSeq (sIf (tVal (eOp2 eqD (eOp2 ixA (eVar 0) (eCon (.int 1))) (eCon (.int 1)))) (sRet (eArg strI (aCons (eOp2 ixA (eVar 0) (eCon (.int 0))) aNil))) sSkip) (sRet (eOp2 addD (eOp2 addD (eArg strI (aCons (eOp2 ixA (eVar 0) (eCon (.int 0))) aNil)) (eCon (.str "/"))) (eArg strI (aCons (eOp2 ixA (eVar 0) (eCon (.int 1))) aNil)))))
def m__law_number_text : List D → Out (D × D) := runF 1 none b__law_number_text

abbrev nn__law_sum_text : List Str := ["_law_total", "_law_word", "_law_number"]
def b__law_sum_text : Rho → Out Fl := (sSeq (sIf (tVal (eOp2 eqD (eVar 0) (eLst aNil))) (sRet (eCon (.str "0"))) sSkip) (sRet (eTm joinD (eCon (.str " ")) (eComp [1, 2] (iSeqA (eVar 0)) (gTup 2 (gCons (gName 1) (gCons (gName 2) gNil))) tYesF (eOp2 addD (eOp2 addD (eCall m__law_number_text (aCons (eVar 2) aNil)) (eCon (.str ":"))) (eCall m__law_word_text (aCons (eVar 1) aNil)))))))
def m__law_sum_text : List D → Out (D × D) := runF 3 none b__law_sum_text

abbrev nn__law_word_rank : List Str := ["_law_term"]
def b__law_word_rank : Rho → Out Fl := (sRet (eCall m__law_rank (aCons (eOp2 ixA (eVar 0) (eCon (.int 0))) aNil)))
def m__law_word_rank : List D → Out (D × D) := runF 1 none b__law_word_rank

abbrev nn__law_great_well : List Str := ["_law_purse_here", "_law_total", "_law_top", "_law_number", "_law_great", "_law_word", "_law_much"]
def b__law_great_well : Rho → Out Fl := (sSeq (sSet 2 (eOp2 repD (eOp2 addD (eCon (.int 1)) (eCallM m__law_take 0 0 (aHoleQ 0 (aCons (eOp2 powD (eCon (.int 10)) (eCon (.int 40))) aNil)))) (eOp2 ixA (eLst (aCons (eCon (.int 1)) (aCons (eOp1 negD (eCon (.int 1))) aNil))) (eCallM m__law_take 0 0 (aHoleQ 0 (aCons (eCon (.int 2)) aNil)))))) (sSeq (sSet 3 (eCall m__law_low (aCons (eVar 2) (aCons (eOp2 addD (eCon (.int 1)) (eCallM m__law_take 0 0 (aHoleQ 0 (aCons (eOp2 ixA (eLst (aCons (eCon (.int 1)) (aCons (eOp2 powD (eCon (.int 10)) (eCon (.int 30))) aNil))) (eCallM m__law_take 0 0 (aHoleQ 0 (aCons (eCon (.int 2)) aNil)))) aNil)))) aNil)))) (sSeq (sSet 4 (eLst (aCons (eTup (aCons (eTup (aCons (eCon (.int 0)) (aCons (eCon (.int 0)) (aCons (eCon (.int 0)) (aCons (eCon (.int 0)) (aCons (eCon (.int 0)) aNil)))))) (aCons (eVar 3) aNil))) aNil))) (sSeq (sFor (iSeqA (eVar 1)) (gTup 2 (gCons (gName 5) (gCons (gName 6) gNil))) (sIf (tVal (eOp2 neD (eVar 5) (eTup (aCons (eCon (.int 0)) (aCons (eCon (.int 0)) (aCons (eCon (.int 0)) (aCons (eCon (.int 0)) (aCons (eCon (.int 0)) aNil)))))))) (sExpr (eOwnM uAppend 4 (aCons (eTup (aCons (eVar 5) (aCons (eVar 6) aNil))) aNil))) sSkip)) (sSeq (sSet 4 (eSortK m__law_word_rank (eVar 4))) (sRet (ePeek (eOp2 eqD (eCall m_sum_text (aCons (eVar 4) aNil)) (eCall m__law_sum_text (aCons (eVar 4) aNil))))))))))
def m__law_great_well : List D → Out (D × D) := runF 7 (some 0) b__law_great_well

abbrev nn__law_mixed_up : List Str := ["_law_total", "_law_purse_here", "_law_words", "_law_word", "_law_number", "_law_term"]
def b__law_mixed_up : Rho → Out Fl := (sSeq (sSet 2 (eLst aNil)) (sSeq (sFor (iSeqA (eVar 0)) (gTup 2 (gCons (gName 3) (gCons (gName 4) gNil))) (sSeq (sSet 5 (eOp2 addD (eOp2 addD (eCall m__law_number_text (aCons (eVar 4) aNil)) (eCon (.str ":"))) (eCall m__law_word_text (aCons (eVar 3) aNil)))) (sExpr (eOwnM uInsert 2 (aCons (eCallM m__law_take 0 1 (aHoleQ 1 (aCons (ePeek (eOp2 addD (eArg lenA (aCons (eVar 2) aNil)) (eCon (.int 1)))) aNil))) (aCons (eVar 5) aNil)))))) (sRet (eTm joinD (eCon (.str " ")) (eVar 2)))))
def m__law_mixed_up : List D → Out (D × D) := runF 6 (some 1) b__law_mixed_up

abbrev nn_law : List Str := ["_law_script", "_law_k", "_law_purse_here", "_law_count", "_law_total", "_law_handed", "_law_text"]
def b_law : Rho → Out Fl := (sSeq (sFor (iRange (aCons (eCon (.int 8)) aNil)) (gName 1) (sSeq (sSet 2 (eCall m__law_purse (aCons (eCall m__law_at (aCons (eVar 0) (aCons (eVar 1) aNil))) (aCons (eOp2 addD (eCon (.int 50)) (eVar 1)) aNil)))) (sSeq (sSet 3 (eOp2 addD (eCon (.int 1)) (eCallM m__law_take 0 2 (aHoleQ 2 (aCons (eCon (.int 6)) aNil))))) (sSeq (sSet 4 (eCallM m__law_sum 0 2 (aHoleQ 2 (aCons (eVar 3) (aCons (eCon (.int 9)) aNil))))) (sSeq (sSet 5 (eArg listD (aCons (eVar 4) aNil))) (sSeq (sSet 6 (eCall m_sum_text (aCons (eVar 5) aNil))) (sSeq (sIf (tOrF (tNotF (tVal (eArg isiD (aCons (eVar 6) (aCons (eCon (.ty .str)) aNil))))) (tOrF (tVal (eOp2 neD (eVar 6) (eCall m__law_sum_text (aCons (eVar 4) aNil)))) (tOrF (tVal (eOp2 neD (eVar 5) (eVar 4))) (tVal (eOp2 neD (eCall m_sum_text (aCons (eVar 5) aNil)) (eVar 6)))))) (sRet (eCon (.bl false))) sSkip) (sSeq (sIf (tOrF (tNotF (tVal (eCallM m__law_great_well 0 2 (aHoleQ 2 (aCons (eVar 4) aNil))))) (tNotF (tVal (eCall m__law_well (aCons (eVar 4) (aCons (eVar 3) (aCons (eVar 6) aNil))))))) (sRet (eCon (.bl false))) sSkip) (sIf (tAndF (tVal (eOp2 neD (eVar 4) (eLst aNil))) (tNotF (tVal (eCall m__law_well (aCons (eVar 4) (aCons (eVar 3) (aCons (eCallM m__law_mixed_up 1 2 (aCons (eVar 4) (aHoleQ 2 aNil))) aNil))))))) (sRet (eCon (.bl false))) sSkip))))))))) (sRet (eCall m__law_well (aCons (eLst aNil) (aCons (eCon (.int 1)) (aCons (eCon (.str "0")) aNil))))))
def m_law : List D → Out (D × D) := runF 7 none b_law

end Lw

set_option maxRecDepth 100000
set_option exponentiation.threshold 4000
namespace Lw
open PySem PySem.Spec PyProof.Rows L2 SW
open TL (tl ext_tl)
/-! texts as lists of signs -/
open TL (tl mk_tl len_tl ext_tl tl_append spl par pre spl_hit spl_miss par_hit par_miss map_tl_inj split_spl kind_ok partition_par tl_strSub)
abbrev Tx := List Nat
def sT (l : Tx) : Str := ⟨l.toArray⟩
theorem tl_sT (l : Tx) : tl (sT l) = l := rfl
theorem sT_tl (x : Str) : sT (tl x) = x := mk_tl x
theorem sT_inj {a b : Tx} (h : sT a = sT b) : a = b := by rw [← tl_sT a, ← tl_sT b, h]
theorem sT_len (l : Tx) : (sT l).length = l.length := by rw [len_tl, tl_sT]
theorem sT_app (a b : Tx) : sT a ++ sT b = sT (a ++ b) := ext_tl (by rw [tl_append, tl_sT, tl_sT, tl_sT])
def OkT (l : Tx) : Prop := ∀ c ∈ l, c < 1114112
theorem okT_str {l : Tx} (h : OkT l) : PyData.strOk (sT l) = true := by
  show (l.toArray).all (· < 0x110000) = true
  simpa [OkT] using h
theorem eqvT (a b : Tx) : PyData.eqv (.str (sT a)) (.str (sT b)) = decide (a = b) := by
  show (sT a == sT b) = _
  rw [Bool.eq_iff_iff, beq_iff_eq, decide_eq_true_iff]
  exact ⟨sT_inj, fun h => by rw [h]⟩
theorem shapedT {l : Tx} (h : OkT l) : SeqAt.shaped (.str (sT l)) = true := by
  unfold SeqAt.shaped
  rw [show PyData.canLay0 (.str (sT l)) = true by rw [PyData.canLay0]; exact okT_str h, decide_eq_true (by rw [PyData.depth]; omega)]
  rfl
theorem eqT {a b : Tx} (ha : OkT a) (hb : OkT b) : eqD (.str (sT a)) (.str (sT b)) = some (.bl (decide (a = b))) := by
  show (if (SeqAt.shaped (.str (sT a)) && SeqAt.shaped (.str (sT b))) = true then some (D.bl (PyData.eqv (.str (sT a)) (.str (sT b)))) else none) = _
  rw [shapedT ha, shapedT hb, eqvT]
  rfl
theorem neT {a b : Tx} (ha : OkT a) (hb : OkT b) : neD (.str (sT a)) (.str (sT b)) = some (.bl (!decide (a = b))) := by
  show (if (SeqAt.shaped (.str (sT a)) && SeqAt.shaped (.str (sT b))) = true then some (D.bl (!PyData.eqv (.str (sT a)) (.str (sT b)))) else none) = _
  rw [shapedT ha, shapedT hb, eqvT]
  rfl
theorem pyT : ∀ xs : List Tx, D.pyL (xs.map fun l => D.str (sT l)) = some (xs.map fun l => PyData.str (sT l))
  | [] => rfl
  | x :: xs => by
    show (match D.py (.str (sT x)), D.pyL (xs.map fun l => D.str (sT l)) with
      | some p, some ps => some (p :: ps)
      | _, _ => none) = _
    rw [pyT xs]
    rfl
theorem shapedTs {xs : List Tx} (h : ∀ x ∈ xs, OkT x) : SeqAt.shaped (.list (xs.map fun l => PyData.str (sT l))) = true := by
  have e1 : ∀ ys : List Tx, (∀ x ∈ ys, OkT x) → PyData.canLayAll0 (ys.map fun l => PyData.str (sT l)) = true := fun ys => by
    induction ys with
    | nil => intro _; rw [List.map_nil, PyData.canLayAll0]
    | cons y ys ih =>
      intro hy
      rw [List.map_cons, PyData.canLayAll0, ih fun x hx => hy x (List.mem_cons_of_mem _ hx), Bool.and_true, PyData.canLay0]
      exact okT_str (hy y List.mem_cons_self)
  have e2 : ∀ ys : List Tx, PyData.depthAll (ys.map fun l => PyData.str (sT l)) = 0 := fun ys => by
    induction ys with
    | nil => rw [List.map_nil, PyData.depthAll]
    | cons y ys ih => rw [List.map_cons, PyData.depthAll, ih, PyData.depth]; rfl
  unfold SeqAt.shaped
  rw [show PyData.canLay0 (.list (xs.map fun l => PyData.str (sT l))) = true by rw [PyData.canLay0]; exact e1 xs h, decide_eq_true (by rw [PyData.depth, e2]; omega)]
  rfl
theorem neT0 {xs : List Tx} (h : ∀ x ∈ xs, OkT x) : neD (.lst (xs.map fun l => D.str (sT l))) (.lst []) = some (.bl (!decide (xs = []))) := by
  have e : D.py (.lst (xs.map fun l => D.str (sT l))) = some (.list (xs.map fun l => PyData.str (sT l))) := by
    show (D.pyL _).map PyData.list = _
    rw [pyT]
    rfl
  have e2 : D.py (.lst []) = some (.list []) := rfl
  unfold neD cmpP
  rw [e, e2]
  dsimp only
  have e3 : shOk (.list (xs.map fun l => PyData.str (sT l))) (.list []) = true := by
    unfold shOk
    rw [shapedTs h]
    exact shapedTs (xs := []) (by simp)
  rw [e3, if_pos rfl]
  cases xs with
  | nil => rfl
  | cons x xs => rfl
/-- a text that stands in the program -/
theorem lit_sT {y : Str} {b : Tx} (h : tl y = b) : y = sT b := by rw [← h, sT_tl]
theorem l_empty : ("" : Str) = sT [] := rfl
theorem l_zero : ("0" : Str) = sT [48] := lit_sT (by decide +kernel)
theorem l_minus : ("-" : Str) = sT [45] := lit_sT (by decide +kernel)
theorem l_slash : ("/" : Str) = sT [47] := lit_sT (by decide +kernel)
theorem l_e : ("e" : Str) = sT [101] := lit_sT (by decide +kernel)
theorem l_colon : (":" : Str) = sT [58] := lit_sT (by decide +kernel)
theorem l_dot : ("." : Str) = sT [46] := lit_sT (by decide +kernel)
theorem l_blank : (" " : Str) = sT [32] := lit_sT (by decide +kernel)
def figs : Tx := [48, 49, 50, 51, 52, 53, 54, 55, 56, 57]
theorem l_figs : ("0123456789" : Str) = sT figs := lit_sT (by decide +kernel)
theorem fig_mem (c : Nat) : c ∈ figs ↔ 48 ≤ c ∧ c ≤ 57 := by
  unfold figs
  simp only [List.mem_cons, List.not_mem_nil, or_false]
  omega
theorem lenT {l : Tx} (h : l.length ≤ 16000000) : lenA [.str (sT l)] = some (.int (l.length : Nat)) := by
  show (match (if (sT l).length ≤ sizeLine then some (D.int ((sT l).length : Nat)) else none) with | some c => some c | none => _) = _
  rw [sT_len, if_pos (by rw [sizeLine_is]; omega)]
theorem cutS_sT (l : Tx) (lo hi : Option Int) : cutS (sT l) lo hi = sT ((l.drop (HT.sIx l.length 0 lo)).take (HT.sIx l.length l.length hi - HT.sIx l.length 0 lo)) := by
  unfold cutS
  rw [sT_len]
  rfl
theorem sliceT_gen {l : Tx} (h : l.length ≤ 16000000) (lo hi : Option Int) : sliceS (.str (sT l)) lo hi = some (.str (sT ((l.drop (HT.sIx l.length 0 lo)).take (HT.sIx l.length l.length hi - HT.sIx l.length 0 lo)))) := by
  show (if (sT l).length ≤ sizeLine then some (D.str (cutS (sT l) lo hi)) else none) = _
  rw [sT_len, if_pos (by rw [sizeLine_is]; omega), cutS_sT]
theorem take1T {l : Tx} (h : l.length ≤ 16000000) : sliceS (.str (sT l)) none (some 1) = some (.str (sT (l.take 1))) := by
  rw [sliceT_gen h]
  have e1 : HT.sIx l.length 0 none = 0 := rfl
  have e2 : HT.sIx l.length l.length (some 1) = min 1 l.length := by
    unfold HT.sIx
    simp
  rw [e1, e2, List.drop_zero, Nat.sub_zero]
  congr 3
  rw [List.take_eq_take_iff]
  omega
theorem drop1T {l : Tx} (h : l.length ≤ 16000000) : sliceS (.str (sT l)) (some 1) none = some (.str (sT (l.drop 1))) := by
  rw [sliceT_gen h]
  have e1 : HT.sIx l.length l.length none = l.length := rfl
  have e2 : HT.sIx l.length 0 (some 1) = min 1 l.length := by
    unfold HT.sIx
    simp
  rw [e1, e2]
  congr 3
  rw [List.take_of_length_le (by rw [List.length_drop]; omega)]
  by_cases h0 : l = []
  · subst h0; rfl
  · have : 0 < l.length := List.length_pos_iff.mpr h0
    rw [show min 1 l.length = 1 by omega]
theorem signsT (l : Tx) : signsD (sT l) = l.map fun c => D.str (sT [c]) := rfl
theorem iSignsT {f : Rho → Out (D × Rho)} {ρ ρ1 : Rho} {l : Tx} (h : l.length ≤ 16000000) (e : f ρ = .ok (.str (sT l), ρ1)) : iSigns f ρ = .ok (l.map (fun c => D.str (sT [c])), ρ1) := by
  unfold iSigns
  rw [e, bind_ok]
  have : (sT l).cps.size ≤ sizeLine := by
    have h1 := sT_len l
    have h2 : (sT l).cps.size = (sT l).length := rfl
    rw [h2, h1, sizeLine_is]
    omega
  show (if (sT l).cps.size ≤ sizeLine then Out.ok (signsD (sT l), ρ1) else .stuck) = _
  rw [if_pos this, signsT]
theorem notInT (c : Nat) (z : Tx) : notInS (.str (sT [c])) (.str (sT z)) = some (.bl (!decide (c ∈ z))) := rfl
theorem ix0T {c : Nat} {l : Tx} (h : (c :: l).length ≤ 16000000) : ixA (.str (sT (c :: l))) (.int 0) = some (.str (sT [c])) := by
  show strIx (sT (c :: l)) 0 = _
  unfold strIx
  rw [sT_len, if_pos (by rw [sizeLine_is]; omega)]
  have e : atI (sT (c :: l)).cps.toList (0 : Int) = some c := by
    show atI (c :: l) 0 = some c
    unfold atI ixN
    rw [if_pos (by omega), if_pos (by rw [List.length_cons]; omega)]
    rfl
  rw [e]
  rfl
/-- cut at each such sign -/
def cutT (s : Nat) : Tx → List Tx
  | [] => [[]]
  | c :: r => if c = s then [] :: cutT s r else match cutT s r with
    | p :: ps => (c :: p) :: ps
    | [] => [[c]]
theorem cutT_hit (s : Nat) (r : Tx) : cutT s (s :: r) = [] :: cutT s r := by
  show (if s = s then _ else _) = _
  rw [if_pos rfl]
theorem cutT_miss {s c : Nat} (h : ¬ c = s) {r p : Tx} {ps : List Tx} (e : cutT s r = p :: ps) : cutT s (c :: r) = (c :: p) :: ps := by
  show (if c = s then _ else (match cutT s r with | p :: ps => (c :: p) :: ps | [] => [[c]])) = _
  rw [if_neg h, e]
theorem cutT_ne (s : Nat) : ∀ l, cutT s l ≠ []
  | [] => by simp [cutT]
  | c :: r => by
    unfold cutT
    split
    · simp
    · split <;> simp
theorem pre1 (s c : Nat) (r : Tx) : pre [s] (c :: r) = decide (c = s) := by
  unfold pre
  show ([c] == [s]) = _
  rw [Bool.eq_iff_iff, beq_iff_eq, decide_eq_true_iff]
  simp
theorem spl_cut (s : Nat) : ∀ (l acc : Tx), spl [s] 0 acc l = match cutT s l with | p :: ps => (acc ++ p) :: ps | [] => [acc]
  | [], acc => by simp [spl, cutT]
  | c :: r, acc => by
    unfold cutT
    by_cases h : c = s
    · rw [spl_hit (by rw [pre1, decide_eq_true h]), if_pos h]
      have ih := spl_cut s r []
      show acc :: spl [s] 0 [] r = _
      rw [ih]
      cases e : cutT s r with
      | nil => exact (cutT_ne s r e).elim
      | cons p ps => simp
    · rw [spl_miss (by rw [pre1, decide_eq_false h]), if_neg h, spl_cut s r]
      cases e : cutT s r with
      | nil => exact (cutT_ne s r e).elim
      | cons p ps => simp
theorem splitT {s : Nat} (hs : s < 256) (l : Tx) : Txt.split (sT l) (sT [s]) = (cutT s l).map sT := by
  refine map_tl_inj ?_
  have hk : (sT [s]).cps.all (· < 256) = true := by
    show (#[s] : Array Nat).all (· < 256) = true
    simp [hs]
  rw [split_spl _ _ (by rw [tl_sT]; simp) (kind_ok hk), tl_sT, tl_sT, spl_cut, List.map_map]
  have e2 : (tl ∘ sT) = id := rfl
  rw [e2, List.map_id]
  cases e : cutT s l with
  | nil => exact (cutT_ne s l e).elim
  | cons p ps => simp
theorem cutT_len (s : Nat) : ∀ l, (cutT s l).length ≤ l.length + 1
  | [] => by simp [cutT]
  | c :: r => by
    have ih := cutT_len s r
    unfold cutT
    split
    · simp only [List.length_cons]; omega
    · cases e : cutT s r with
      | nil => simp
      | cons p ps => rw [e] at ih; simp only [List.length_cons] at ih ⊢; omega
theorem cutT_part (s : Nat) : ∀ l, ∀ p ∈ cutT s l, p.length ≤ l.length
  | [] => by simp [cutT]
  | c :: r => by
    have ih := cutT_part s r
    unfold cutT
    split
    · intro p hp
      rcases List.mem_cons.mp hp with rfl | hp
      · simp
      · have := ih p hp; simp only [List.length_cons]; omega
    · cases e : cutT s r with
      | nil => simp
      | cons q qs =>
        rw [e] at ih
        intro p hp
        rcases List.mem_cons.mp hp with rfl | hp
        · have := ih q List.mem_cons_self; simp only [List.length_cons]; omega
        · have := ih p (List.mem_cons_of_mem _ hp); simp only [List.length_cons]; omega
/-- ahead of and behind the first such sign -/
def partT (s : Nat) : Tx → Option (Tx × Tx)
  | [] => none
  | c :: r => if c = s then some ([], r) else (partT s r).map fun p => (c :: p.1, p.2)
theorem par_part (s : Nat) : ∀ (l acc : Tx), par [s] acc l = (partT s l).map fun p => (acc ++ p.1, p.2)
  | [], acc => rfl
  | c :: r, acc => by
    unfold partT
    by_cases h : c = s
    · rw [par_hit (by rw [pre1, decide_eq_true h]), if_pos h]
      simp
    · rw [par_miss (by rw [pre1, decide_eq_false h]), if_neg h, par_part s r]
      cases partT s r <;> simp
theorem partitionT (s : Nat) (l : Tx) : Txt.partition (sT l) (sT [s]) = match partT s l with | some (a, b) => (sT a, sT [s], sT b) | none => (sT l, sT [], sT []) := by
  rw [partition_par _ _ (by rw [tl_sT]; simp), tl_sT, tl_sT, par_part]
  cases partT s l with
  | none => rfl
  | some p => rfl
theorem part_some {s : Nat} : ∀ {l a b : Tx}, partT s l = some (a, b) → cutT s l = a :: cutT s b ∧ l = a ++ s :: b ∧ s ∉ a
  | [], _, _, h => by cases h
  | c :: r, a, b, h => by
    unfold partT at h
    split at h
    · rename_i hc
      cases h
      rw [hc]
      exact ⟨cutT_hit s _, rfl, by simp⟩
    · rename_i hc
      cases e : partT s r with
      | none => rw [e] at h; cases h
      | some p =>
        obtain ⟨a', b'⟩ := p
        rw [e] at h
        cases h
        obtain ⟨i1, i2, i3⟩ := part_some e
        refine ⟨cutT_miss hc i1, by rw [List.cons_append, ← i2], fun hm => ?_⟩
        rcases List.mem_cons.mp hm with e | e
        · exact hc e.symm
        · exact i3 e
theorem splitOkT {s : Nat} (hs : s < 256) {l : Tx} (h : l.length ≤ 16000000) : splitD (sT l) (.str (sT [s])) = some (.lst ((cutT s l).map fun p => D.str (sT p))) := by
  show (if ((sT [s]).length == 0) = false ∧ (sT l).length + 2 ≤ sizeLine ∧ (Txt.split (sT l) (sT [s])).length ≤ sizeLine then some (D.lst ((Txt.split (sT l) (sT [s])).map D.str)) else none) = _
  have hc := cutT_len s l
  rw [splitT hs, sT_len, sT_len, List.length_map, if_pos ⟨rfl, by rw [sizeLine_is]; omega, by rw [sizeLine_is]; omega⟩, List.map_map]
  rfl
theorem partOkT (s : Nat) {l : Tx} (h : l.length ≤ 16000000) : partD (sT l) (.str (sT [s])) = some (match partT s l with | some (a, b) => .tup [.str (sT a), .str (sT [s]), .str (sT b)] | none => .tup [.str (sT l), .str (sT []), .str (sT [])]) := by
  show (if ((sT [s]).length == 0) = false ∧ (sT l).length ≤ sizeLine then some (D.tup [.str (Txt.partition (sT l) (sT [s])).1, .str (Txt.partition (sT l) (sT [s])).2.1, .str (Txt.partition (sT l) (sT [s])).2.2]) else none) = _
  rw [partitionT, sT_len, sT_len, if_pos ⟨rfl, by rw [sizeLine_is]; omega⟩]
  cases partT s l <;> rfl
theorem intT {l : Tx} (hd : NumText.AllDigits l) (h0 : l ≠ []) (h : l.length ≤ 9) : intS [.str (sT l)] = some (.int ((NumText.digitsVal l : Nat) : Int)) := by
  have e := intText_digits (x := sT l) hd h0 (by rw [sT_len]; omega)
  show (if (sT l).length ≤ 640 then (PySem.intText? (sT l)).map D.int else none) = _
  rw [sT_len, if_pos (by omega), e]
  rfl
/-! the purse: how a cell's digits are taken -/
def mixA (c k : Int) : Int := (c % 1000000000000000009 + 7 * k) * 739108512309184756019283746561 + 7919 * k + 1
def mixB (c k : Int) : Int := mixA c k * mixA c k % 1000000000000000000000000000000000000000000000000000000000007
def mixR (c k : Int) : Int := (mixB c k + 40503) * (mixB c k + 57) % 1000000000000000000000000000000000000000000000000000000000007
theorem mixR_bound (c k : Int) : 0 ≤ mixR c k ∧ mixR c k < 1000000000000000000000000000000000000000000000000000000000007 := by
  unfold mixR
  exact ⟨Int.emod_nonneg _ (by omega), Int.emod_lt_of_pos _ (by omega)⟩
theorem natAbs_lt {i : Int} {n : Nat} (h0 : 0 ≤ i) (h : i < (n : Int)) : i.natAbs < n := by omega
theorem two_pow_cast (n : Nat) : ((2 ^ n : Nat) : Int) = (2 : Int) ^ n := by simp
theorem mix_ok (c k : Int) (h0 : 0 ≤ k) (hk : k < 2 ^ 1000) : m__law_mixed [.int c, .int k] = .ok (.int (mixR c k), .non) := by
  have b1 : bits2 7 k = true := bits2_l (by decide)
  have b2 : bits2 7919 k = true := bits2_l (by decide)
  have hc0 : 0 ≤ c % 1000000000000000009 := Int.emod_nonneg _ (by omega)
  have hc1 : c % 1000000000000000009 < 1000000000000000009 := Int.emod_lt_of_pos _ (by omega)
  have e1000 : (2 : Int) ^ 1000 = ((2 ^ 1000 : Nat) : Int) := (two_pow_cast 1000).symm
  have h1 : (c % 1000000000000000009 + 7 * k).natAbs < 2 ^ 1100 := by
    have : (2 : Nat) ^ 1100 = 2 ^ 1000 * 2 ^ 100 := by rw [← Nat.pow_add]
    have h2 : (2 : Nat) ^ 100 = 1267650600228229401496703205376 := by decide
    rw [e1000] at hk
    generalize (2 : Nat) ^ 1000 = N at hk this
    omega
  have b3 : bits2 (c % 1000000000000000009 + 7 * k) 739108512309184756019283746561 = true := bits2_of (b := 200) h1 (by decide) (by decide)
  have hA : (mixA c k).natAbs < 2 ^ 1400 := by
    unfold mixA
    have : (2 : Nat) ^ 1400 = 2 ^ 1000 * 2 ^ 400 := by rw [← Nat.pow_add]
    have h2 : (2 : Nat) ^ 400 > 10 ^ 100 := by decide
    rw [e1000] at hk
    generalize (2 : Nat) ^ 1000 = N at hk this
    generalize (2 : Nat) ^ 400 = M at h2 this
    have h3 : N * 10 ^ 100 ≤ N * M := Nat.mul_le_mul_left _ (Nat.le_of_lt h2)
    omega
  have b4 : bits2 (mixA c k) (mixA c k) = true := bits2_of hA hA (by decide)
  have hB0 : 0 ≤ mixB c k := Int.emod_nonneg _ (by omega)
  have hB1 : mixB c k < 1000000000000000000000000000000000000000000000000000000000007 := Int.emod_lt_of_pos _ (by omega)
  have b5 : bits2 (mixB c k + 40503) (mixB c k + 57) = true := by
    have h2 : (2 : Nat) ^ 300 > 10 ^ 70 := by decide
    refine bits2_of (a := 300) (b := 300) ?_ ?_ (by decide)
    · omega
    · omega
  unfold mixA at b4
  unfold mixB mixA at b5
  have e9 : (1000000000000000000 : Int) + 9 = 1000000000000000009 := by decide
  have e7 : (1000000000000000000000000000000000000000000000000000000000000 : Int) + 7 = 1000000000000000000000000000000000000000000000000000000000007 := by decide
  simp (disch := first | assumption | decide | omega) only [m__law_mixed, b__law_mixed, runF, m0, sSeq, sSet, sIf, sRet, sRetN, sExpr, sSkip_ok, sSetA, sSetIx, sFor, sPar, sBind, sAug, eVar, eCon_ok, eOp2, eOp1, eCall, eCallM, eCallT, eTup, eLst, eArg, eIf, tVal, tNotF, tAndF, tOrF, eB, eAndF, eOrF, eNotF, eIxA, eIxO, eCatO, ixA_lst, ixA_tup, ixA_scr, eDNew, eDGet, eDGetO, eDPop, eSortK, eMM, aHoleQ, aHole, aNil_ok, aCons, oNone_ok, oSome, eSlice, eSliceL, iSeqA, iSeq, iRange, iArg, ePeek, tPeek, eOwnM, tYes_ok, bind_ok, bind_exc, bind_stuck, of_some, flatD, SW.gName, List.getD_cons_zero, List.getD_cons_succ, List.set_cons_zero, List.set_cons_succ, List.map_cons, List.map_nil, List.length_cons, List.length_nil, List.cons_append, List.nil_append, List.replicate, Nat.reduceAdd, Nat.reduceSub, addD_int, subD_int, negD_int, repD_int, modD_int, fdivD_int, ltA_int, leA_int, gtA_int, geA_int, eqD_int, neD_int, pow_10_18, pow_10_60, e9, e7, mixR, mixB, mixA]
/-- a purse -/
def purseD (a b c : Int) : D := .lst [.int a, .int b, .int c]
structure Ps (n : Nat) (d : D) : Prop where
  ex : ∃ a b c : Int, d = purseD a b c ∧ 0 ≤ a ∧ 0 ≤ b ∧ b + n ≤ 2 ^ 900
theorem ix0 {a b c : Int} : ixD (.lst [.int a, .int b, .int c]) (.int 0) = some (.int a) := rfl
theorem ix1 {a b c : Int} : ixD (.lst [.int a, .int b, .int c]) (.int 1) = some (.int b) := rfl
theorem ix2 {a b c : Int} : ixD (.lst [.int a, .int b, .int c]) (.int 2) = some (.int c) := rfl
theorem ixN30 : ixN 3 0 = some 0 := by decide
theorem ixN31 : ixN 3 1 = some 1 := by decide
theorem take_ok {n : Nat} {p : D} {many : Int} (hp : Ps (n + 1) p) (h1 : 1 ≤ many) (h2 : many < 2 ^ 200) : ∃ (g : Int) (p' : D), m__law_take [p, .int many] = .ok (.int g, p') ∧ 0 ≤ g ∧ g < many ∧ Ps n p' := by
  obtain ⟨a, b, c, rfl, h0, hb, hn⟩ := hp.ex
  have e900 : (2 : Int) ^ 900 = ((2 ^ 900 : Nat) : Int) := (two_pow_cast 900).symm
  have e1000 : (2 : Int) ^ 1000 = ((2 ^ 1000 : Nat) : Int) := (two_pow_cast 1000).symm
  have ee : (2 : Nat) ^ 1000 = 2 ^ 900 * 2 ^ 100 := by rw [← Nat.pow_add]
  have e100 : (2 : Nat) ^ 100 = 1267650600228229401496703205376 := by decide
  have hk : 11 * (b + 1) + 5 < 2 ^ 1000 := by
    rw [e1000, ee]
    rw [e900] at hn
    generalize (2 : Nat) ^ 900 = N at hn ⊢
    omega
  have bm : bits2 11 (b + 1) = true := bits2_l (by decide)
  have hmix := mix_ok c (11 * (b + 1) + 5) (by omega) hk
  obtain ⟨r0, r1⟩ := mixR_bound c (11 * (b + 1) + 5)
  have bmm : bits2 many (mixR c (11 * (b + 1) + 5)) = true := by
    have h5 : (2 : Int) ^ 200 = ((2 ^ 200 : Nat) : Int) := (two_pow_cast 200).symm
    rw [h5] at h2
    refine bits2_of (a := 200) (b := 300) (natAbs_lt (by omega) h2) ?_ (by decide)
    have h2 : (2 : Nat) ^ 300 > 10 ^ 70 := by decide
    omega
  have hpos : 0 < many := by omega
  by_cases hlt : a < many
  · have hmul : 0 ≤ many * mixR c (11 * (b + 1) + 5) := Int.mul_nonneg (by omega) r0
    refine ⟨(a + many * mixR c (11 * (b + 1) + 5)) % many, purseD ((a + many * mixR c (11 * (b + 1) + 5)) / many) (b + 1) c, ?_, Int.emod_nonneg _ (by omega), Int.emod_lt_of_pos _ hpos, ⟨_, _, _, rfl, ?_, by omega, by omega⟩⟩
    · simp (disch := first | assumption | decide | omega) only [m__law_take, b__law_take, purseD, runF, m0, sSeq, sSet, sIf, sRet, sRetN, sExpr, sSkip_ok, sSetA, sSetIx, sFor, sPar, sBind, sAug, eVar, eCon_ok, eOp2, eOp1, eCall, eCallM, eCallT, eTup, eLst, eArg, eIf, tVal, tNotF, tAndF, tOrF, eB, eAndF, eOrF, eNotF, eIxA, eIxO, eCatO, ixA_lst, ixA_tup, ixA_scr, eDNew, eDGet, eDGetO, eDPop, eSortK, eMM, aHoleQ, aHole, aNil_ok, aCons, oNone_ok, oSome, eSlice, eSliceL, iSeqA, iSeq, iRange, iArg, ePeek, tPeek, eOwnM, tYes_ok, bind_ok, bind_exc, bind_stuck, of_some, flatD, SW.gName, List.getD_cons_zero, List.getD_cons_succ, List.set_cons_zero, List.set_cons_succ, List.map_cons, List.map_nil, List.length_cons, List.length_nil, List.cons_append, List.nil_append, List.replicate, Nat.reduceAdd, Nat.reduceSub, addD_int, subD_int, negD_int, repD_int, modD_int, fdivD_int, ltA_int, leA_int, gtA_int, geA_int, eqD_int, neD_int, pow_10_18, pow_10_60, ix0, ix1, ix2, decide_eq_true hlt, if_true, ixN30, ixN31, hmix, Option.getD_some]
    · exact Int.ediv_nonneg (by omega) (by omega)
  · refine ⟨a % many, purseD (a / many) b c, ?_, Int.emod_nonneg _ (by omega), Int.emod_lt_of_pos _ hpos, ⟨_, _, _, rfl, Int.ediv_nonneg h0 (by omega), hb, by omega⟩⟩
    simp (disch := first | assumption | decide | omega) only [m__law_take, b__law_take, purseD, runF, m0, sSeq, sSet, sIf, sRet, sRetN, sExpr, sSkip_ok, sSetA, sSetIx, sFor, sPar, sBind, sAug, eVar, eCon_ok, eOp2, eOp1, eCall, eCallM, eCallT, eTup, eLst, eArg, eIf, tVal, tNotF, tAndF, tOrF, eB, eAndF, eOrF, eNotF, eIxA, eIxO, eCatO, ixA_lst, ixA_tup, ixA_scr, eDNew, eDGet, eDGetO, eDPop, eSortK, eMM, aHoleQ, aHole, aNil_ok, aCons, oNone_ok, oSome, eSlice, eSliceL, iSeqA, iSeq, iRange, iArg, ePeek, tPeek, eOwnM, tYes_ok, bind_ok, bind_exc, bind_stuck, of_some, flatD, SW.gName, List.getD_cons_zero, List.getD_cons_succ, List.set_cons_zero, List.set_cons_succ, List.map_cons, List.map_nil, List.length_cons, List.length_nil, List.cons_append, List.nil_append, List.replicate, Nat.reduceAdd, Nat.reduceSub, addD_int, subD_int, negD_int, repD_int, modD_int, fdivD_int, ltA_int, leA_int, gtA_int, geA_int, eqD_int, neD_int, pow_10_18, pow_10_60, ix0, ix1, ix2, decide_eq_false hlt, if_false, Bool.false_eq_true, ixN30, ixN31, Option.getD_some]

/-! what a law reads and draws -/
theorem law_at_ok (ns : List Int) (k : Int) (hk : 0 ≤ k) : ∃ i : Int, m__law_at [.scr ns, .int k] = .ok (.int i, .non) := by
  by_cases h : k < ns.length
  · have e : ixD (.scr ns) (.int k) = some (.int (ns.getD k.toNat 0)) := by
      show (atI ns k).map D.int = _
      unfold atI ixN
      rw [if_pos hk, if_pos h]
      show (ns[k.toNat]?).map D.int = _
      rw [List.getD_eq_getElem?_getD, List.getElem?_eq_getElem (by omega)]
      rfl
    refine ⟨ns.getD k.toNat 0, ?_⟩
    · have el : lenA [.scr ns] = some (.int ns.length) := rfl
      simp (disch := first | assumption | decide | omega) only [m__law_at, b__law_at, runF, m0, sSeq, sSet, sIf, sRet, sRetN, sExpr, sSkip_ok, sSetA, sSetIx, sFor, sPar, sBind, sAug, eVar, eCon_ok, eOp2, eOp1, eCall, eCallM, eCallT, eTup, eLst, eArg, eIf, tVal, tNotF, tAndF, tOrF, eB, eAndF, eOrF, eNotF, eIxA, eIxO, eCatO, ixA_lst, ixA_tup, ixA_scr, eDNew, eDGet, eDGetO, eDPop, eSortK, eMM, aHoleQ, aHole, aNil_ok, aCons, oNone_ok, oSome, eSlice, eSliceL, iSeqA, iSeq, iRange, iArg, ePeek, tPeek, eOwnM, tYes_ok, bind_ok, bind_exc, bind_stuck, of_some, flatD, SW.gName, List.getD_cons_zero, List.getD_cons_succ, List.set_cons_zero, List.set_cons_succ, List.map_cons, List.map_nil, List.length_cons, List.length_nil, List.cons_append, List.nil_append, List.replicate, Nat.reduceAdd, Nat.reduceSub, addD_int, subD_int, negD_int, repD_int, modD_int, fdivD_int, ltA_int, leA_int, gtA_int, geA_int, eqD_int, neD_int, pow_10_18, pow_10_60, el, decide_eq_true h, if_true, e]
  · refine ⟨3 * k + 1, ?_⟩
    have el : lenA [.scr ns] = some (.int ns.length) := rfl
    have b3 : bits2 3 k = true := bits2_l (by decide)
    simp (disch := first | assumption | decide | omega) only [m__law_at, b__law_at, runF, m0, sSeq, sSet, sIf, sRet, sRetN, sExpr, sSkip_ok, sSetA, sSetIx, sFor, sPar, sBind, sAug, eVar, eCon_ok, eOp2, eOp1, eCall, eCallM, eCallT, eTup, eLst, eArg, eIf, tVal, tNotF, tAndF, tOrF, eB, eAndF, eOrF, eNotF, eIxA, eIxO, eCatO, ixA_lst, ixA_tup, ixA_scr, eDNew, eDGet, eDGetO, eDPop, eSortK, eMM, aHoleQ, aHole, aNil_ok, aCons, oNone_ok, oSome, eSlice, eSliceL, iSeqA, iSeq, iRange, iArg, ePeek, tPeek, eOwnM, tYes_ok, bind_ok, bind_exc, bind_stuck, of_some, flatD, SW.gName, List.getD_cons_zero, List.getD_cons_succ, List.set_cons_zero, List.set_cons_succ, List.map_cons, List.map_nil, List.length_cons, List.length_nil, List.cons_append, List.nil_append, List.replicate, Nat.reduceAdd, Nat.reduceSub, addD_int, subD_int, negD_int, repD_int, modD_int, fdivD_int, ltA_int, leA_int, gtA_int, geA_int, eqD_int, neD_int, pow_10_18, pow_10_60, el, decide_eq_false h, if_false, Bool.false_eq_true]
theorem purse_ok (c k : Int) (h0 : 0 ≤ k) (hk : k < 2 ^ 1000) : ∃ p, m__law_purse [.int c, .int k] = .ok (p, .non) ∧ Ps 1000000 p := by
  have e : (1000000000000000000 : Int) + 9 = 1000000000000000009 := by decide
  have big : (1000000 : Int) ≤ 2 ^ 900 := by decide
  by_cases h : (1000000000000000000 : Int) ≤ c
  · refine ⟨_, ?_, ⟨c - 1000000000000000000, 0, k, rfl, by omega, by omega, by simpa using big⟩⟩
    simp (disch := first | assumption | decide | omega) only [m__law_purse, b__law_purse, runF, m0, sSeq, sSet, sIf, sRet, sRetN, sExpr, sSkip_ok, sSetA, sSetIx, sFor, sPar, sBind, sAug, eVar, eCon_ok, eOp2, eOp1, eCall, eCallM, eCallT, eTup, eLst, eArg, eIf, tVal, tNotF, tAndF, tOrF, eB, eAndF, eOrF, eNotF, eIxA, eIxO, eCatO, ixA_lst, ixA_tup, ixA_scr, eDNew, eDGet, eDGetO, eDPop, eSortK, eMM, aHoleQ, aHole, aNil_ok, aCons, oNone_ok, oSome, eSlice, eSliceL, iSeqA, iSeq, iRange, iArg, ePeek, tPeek, eOwnM, tYes_ok, bind_ok, bind_exc, bind_stuck, of_some, flatD, SW.gName, List.getD_cons_zero, List.getD_cons_succ, List.set_cons_zero, List.set_cons_succ, List.map_cons, List.map_nil, List.length_cons, List.length_nil, List.cons_append, List.nil_append, List.replicate, Nat.reduceAdd, Nat.reduceSub, addD_int, subD_int, negD_int, repD_int, modD_int, fdivD_int, ltA_int, leA_int, gtA_int, geA_int, eqD_int, neD_int, pow_10_18, pow_10_60, decide_eq_true h, if_true, purseD]
  · refine ⟨_, ?_, ⟨mixR c k, 0, c % 1000000000000000009 + k, rfl, (mixR_bound c k).1, by omega, by simpa using big⟩⟩
    simp (disch := first | assumption | decide | omega) only [m__law_purse, b__law_purse, runF, m0, sSeq, sSet, sIf, sRet, sRetN, sExpr, sSkip_ok, sSetA, sSetIx, sFor, sPar, sBind, sAug, eVar, eCon_ok, eOp2, eOp1, eCall, eCallM, eCallT, eTup, eLst, eArg, eIf, tVal, tNotF, tAndF, tOrF, eB, eAndF, eOrF, eNotF, eIxA, eIxO, eCatO, ixA_lst, ixA_tup, ixA_scr, eDNew, eDGet, eDGetO, eDPop, eSortK, eMM, aHoleQ, aHole, aNil_ok, aCons, oNone_ok, oSome, eSlice, eSliceL, iSeqA, iSeq, iRange, iArg, ePeek, tPeek, eOwnM, tYes_ok, bind_ok, bind_exc, bind_stuck, of_some, flatD, SW.gName, List.getD_cons_zero, List.getD_cons_succ, List.set_cons_zero, List.set_cons_succ, List.map_cons, List.map_nil, List.length_cons, List.length_nil, List.cons_append, List.nil_append, List.replicate, Nat.reduceAdd, Nat.reduceSub, addD_int, subD_int, negD_int, repD_int, modD_int, fdivD_int, ltA_int, leA_int, gtA_int, geA_int, eqD_int, neD_int, pow_10_18, pow_10_60, decide_eq_false h, if_false, Bool.false_eq_true, mix_ok c k h0 hk, e, purseD]
theorem Ps.mono {n m : Nat} {p : D} (h : n ≤ m) (hp : Ps m p) : Ps n p := by
  obtain ⟨a, b, c, e, h0, hb, hn⟩ := hp.ex
  exact ⟨a, b, c, e, h0, hb, by omega⟩
/-! fractions -/
def eRat : Enc Rat where
  en r := .tup [.int r.num, .int ((r.den : Nat) : Int)]
  py r := .tuple [.int r.num, .int ((r.den : Nat) : Int)]
  dp := 1
  hpy _ := rfl
  heq a b := by
    show (((a.num : Int) == b.num) && ((((a.den : Nat) : Int) == ((b.den : Nat) : Int)) && true)) = _
    rw [Bool.eq_iff_iff, Bool.and_true, Bool.and_eq_true, beq_iff_eq, beq_iff_eq, decide_eq_true_iff]
    constructor
    · rintro ⟨h1, h2⟩; exact Rat.ext h1 (by omega)
    · rintro rfl; exact ⟨rfl, rfl⟩
  lay _ := by simp [PyData.canLay0, PyData.canLayAll0]
  hdp _ := by simp [PyData.depth, PyData.depthAll]
/-! the greatest divisor -/
theorem gcd_loop : ∀ (n a b : Nat), b < n → whileL (tVal (eOp2 neD (eVar 1) (eCon (.int 0)))) (sPar 0 1 (aCons (eVar 1) (aCons (eOp2 modD (eVar 0) (eVar 1)) aNil))) n [some (.int ((a : Nat) : Int)), some (.int ((b : Nat) : Int))] = .ok (.nx [some (.int ((Nat.gcd a b : Nat) : Int)), some (.int 0)])
  | 0, a, b, h => by omega
  | n + 1, a, b, h => by
    by_cases hb : b = 0
    · subst hb
      unfold whileL
      have d0 : ((0 : Nat) : Int) = 0 := rfl
      simp (disch := first | assumption | decide | omega) only [runF, m0, sSeq, sSet, sIf, sRet, sRetN, sExpr, sSkip_ok, sSetA, sSetIx, sFor, sPar, sBind, sAug, eVar, eCon_ok, eOp2, eOp1, eCall, eCallM, eCallT, eTup, eLst, eArg, eIf, tVal, tNotF, tAndF, tOrF, eB, eAndF, eOrF, eNotF, eIxA, eIxO, eCatO, ixA_lst, ixA_tup, ixA_scr, eDNew, eDGet, eDGetO, eDPop, eSortK, eMM, aHoleQ, aHole, aNil_ok, aCons, oNone_ok, oSome, eSlice, eSliceL, iSeqA, iSeq, iRange, iArg, ePeek, tPeek, eOwnM, tYes_ok, bind_ok, bind_exc, bind_stuck, of_some, flatD, SW.gName, List.getD_cons_zero, List.getD_cons_succ, List.set_cons_zero, List.set_cons_succ, List.map_cons, List.map_nil, List.length_cons, List.length_nil, List.cons_append, List.nil_append, List.replicate, Nat.reduceAdd, Nat.reduceSub, addD_int, subD_int, negD_int, repD_int, modD_int, fdivD_int, ltA_int, leA_int, gtA_int, geA_int, eqD_int, neD_int, pow_10_18, pow_10_60, decide_eq_true d0, Bool.not_true, Bool.false_eq_true, if_false, Nat.gcd_zero_right]
      rfl
    · have d0 : ¬ ((b : Nat) : Int) = 0 := by omega
      have dp : (0 : Int) < ((b : Nat) : Int) := by omega
      have hm : a % b < b := Nat.mod_lt _ (by omega)
      have ih := gcd_loop n b (a % b) (by omega)
      have eg : Nat.gcd b (a % b) = Nat.gcd a b := by rw [Nat.gcd_comm a b, Nat.gcd_rec b a, Nat.gcd_comm]
      have em : ((a : Nat) : Int) % ((b : Nat) : Int) = ((a % b : Nat) : Int) := (Int.natCast_emod a b).symm
      rw [eg] at ih
      unfold whileL
      simp (disch := first | assumption | decide | omega) only [tVal, eOp2, eVar, eCon_ok, bind_ok, of_some, neD_int, List.getD_cons_zero, List.getD_cons_succ, decide_eq_false d0, Bool.not_false, if_true, sPar, aCons, aNil_ok, modD_int dp, em, List.set_cons_zero, List.set_cons_succ]
      exact ih
theorem absD_int (i : Int) : absD [.int i] = some (.int ((i.natAbs : Nat) : Int)) := by
  show some (D.int (if i < 0 then -i else i)) = _
  congr 2
  split <;> omega
theorem divisor_ok (a b : Int) : m_divisor [.int a, .int b] = .ok (.int ((Nat.gcd a.natAbs b.natAbs : Nat) : Int), .non) := by
  have e := gcd_loop (b.natAbs + 1) a.natAbs b.natAbs (by omega)
  have ef : fuelInt 1 [some (.int ((a.natAbs : Nat) : Int)), some (.int ((b.natAbs : Nat) : Int))] = b.natAbs + 1 := by
    show ((b.natAbs : Nat) : Int).natAbs + 1 = _
    rw [Int.natAbs_natCast]
  simp (disch := first | assumption | decide | omega) only [m_divisor, b_divisor, runF, m0, sSeq, sSet, sIf, sRet, sRetN, sExpr, sSkip_ok, sSetA, sSetIx, sFor, sPar, sBind, sAug, eVar, eCon_ok, eOp2, eOp1, eCall, eCallM, eCallT, eTup, eLst, eArg, eIf, tVal, tNotF, tAndF, tOrF, eB, eAndF, eOrF, eNotF, eIxA, eIxO, eCatO, ixA_lst, ixA_tup, ixA_scr, eDNew, eDGet, eDGetO, eDPop, eSortK, eMM, aHoleQ, aHole, aNil_ok, aCons, oNone_ok, oSome, eSlice, eSliceL, iSeqA, iSeq, iRange, iArg, ePeek, tPeek, eOwnM, tYes_ok, bind_ok, bind_exc, bind_stuck, of_some, flatD, SW.gName, List.getD_cons_zero, List.getD_cons_succ, List.set_cons_zero, List.set_cons_succ, List.map_cons, List.map_nil, List.length_cons, List.length_nil, List.cons_append, List.nil_append, List.replicate, Nat.reduceAdd, Nat.reduceSub, addD_int, subD_int, negD_int, repD_int, modD_int, fdivD_int, ltA_int, leA_int, gtA_int, geA_int, eqD_int, neD_int, pow_10_18, pow_10_60, absD_int, sWhile, ef]
  rw [e]
  rfl
theorem mkRat_num' (t : Int) {d : Nat} (hd : d ≠ 0) : (mkRat t d).num = t / ((Nat.gcd t.natAbs d : Nat) : Int) := by
  rw [Rat.num_mkRat, if_neg hd, Nat.gcd_comm]
theorem mkRat_den' (t : Int) {d : Nat} (hd : d ≠ 0) : (mkRat t d).den = d / Nat.gcd t.natAbs d := by
  rw [Rat.den_mkRat, if_neg hd, Nat.gcd_comm]
/-! how great a fraction is -/
structure Sz (k : Nat) (r : Rat) : Prop where
  n : r.num.natAbs < 2 ^ k
  d : r.den < 2 ^ k
theorem Sz.mono {k m : Nat} {r : Rat} (h : Sz k r) (hm : k ≤ m) : Sz m r := ⟨Nat.lt_of_lt_of_le h.n (Nat.pow_le_pow_right (by decide) hm), Nat.lt_of_lt_of_le h.d (Nat.pow_le_pow_right (by decide) hm)⟩
theorem sz_mk {k : Nat} {t : Int} {d : Nat} (h1 : t.natAbs < 2 ^ k) (h2 : d < 2 ^ k) (h0 : 0 < k) : Sz k (mkRat t d) := by
  by_cases hd : d = 0
  · subst hd
    rw [Rat.mkRat_zero]
    exact ⟨Nat.pow_pos (by decide), Nat.one_lt_two_pow (by omega)⟩
  · refine ⟨?_, ?_⟩
    · rw [mkRat_num' t hd]
      exact Nat.lt_of_le_of_lt (Int.natAbs_ediv_le_natAbs _ _) h1
    · rw [mkRat_den' t hd]
      exact Nat.lt_of_le_of_lt (Nat.div_le_self _ _) h2
theorem mul_lt_pow {a b i j : Nat} (h1 : a < 2 ^ i) (h2 : b < 2 ^ j) : a * b < 2 ^ (i + j) := by
  rw [Nat.pow_add]
  rcases Nat.eq_zero_or_pos b with hb | hb
  · subst hb
    rw [Nat.mul_zero]
    exact Nat.mul_pos (Nat.pow_pos (by decide)) (Nat.pow_pos (by decide))
  · exact Nat.lt_of_lt_of_le (Nat.mul_lt_mul_of_pos_right h1 hb) (Nat.mul_le_mul_left _ (Nat.le_of_lt h2))
theorem den_pos' (r : Rat) : 0 < r.den := Nat.pos_of_ne_zero r.den_nz
theorem Sz.pos {k : Nat} {r : Rat} (h : Sz k r) : 0 < k := by
  rcases Nat.eq_zero_or_pos k with z | z
  · subst z
    have := h.d
    have := den_pos' r
    omega
  · exact z
theorem Sz.add {i j : Nat} {a b : Rat} (h1 : Sz i a) (h2 : Sz j b) : Sz (i + j + 1) (a + b) := by
  rw [Rat.add_def']
  have m1 := mul_lt_pow h1.n h2.d
  have m2 := mul_lt_pow h2.n h1.d
  have m3 := mul_lt_pow h1.d h2.d
  have e : (2 : Nat) ^ (i + j + 1) = 2 ^ (i + j) + 2 ^ (i + j) := by rw [Nat.pow_succ]; omega
  have e2 : j + i = i + j := by omega
  rw [e2] at m2
  refine sz_mk ?_ ?_ (by omega)
  · rw [e]
    refine Nat.lt_of_le_of_lt (Int.natAbs_add_le _ _) ?_
    rw [Int.natAbs_mul, Int.natAbs_mul, Int.natAbs_natCast, Int.natAbs_natCast]
    exact Nat.add_lt_add m1 m2
  · rw [e]; exact Nat.lt_of_lt_of_le m3 (Nat.le_add_right _ _)
theorem r0 (a : Rat) : ixA (eRat.en a) (.int 0) = some (.int a.num) := rfl
theorem r1 (a : Rat) : ixA (eRat.en a) (.int 1) = some (.int ((a.den : Nat) : Int)) := rfl
/-! fractions of the law; what is a number -/
theorem is_whole_ok (i : Int) : m_is_whole [.int i] = .ok (.bl true, .non) := rfl
theorem gcd_loop2 : ∀ (n a b : Nat) (x y : Option D), b < n → whileL (tVal (eOp2 neD (eVar 3) (eCon (.int 0)))) (sPar 2 3 (aCons (eVar 3) (aCons (eOp2 modD (eVar 2) (eVar 3)) aNil))) n [x, y, some (.int ((a : Nat) : Int)), some (.int ((b : Nat) : Int))] = .ok (.nx [x, y, some (.int ((Nat.gcd a b : Nat) : Int)), some (.int 0)])
  | 0, a, b, x, y, h => by omega
  | n + 1, a, b, x, y, h => by
    by_cases hb : b = 0
    · subst hb
      unfold whileL
      have d0 : ((0 : Nat) : Int) = 0 := rfl
      simp (disch := first | assumption | decide | omega) only [runF, m0, sSeq, sSet, sIf, sRet, sRetN, sExpr, sSkip_ok, sSetA, sSetIx, sFor, sPar, sBind, sAug, eVar, eCon_ok, eOp2, eOp1, eCall, eCallM, eCallT, eTup, eLst, eArg, eIf, tVal, tNotF, tAndF, tOrF, eB, eAndF, eOrF, eNotF, eIxA, eIxO, eCatO, ixA_lst, ixA_tup, ixA_scr, eDNew, eDGet, eDGetO, eDPop, eSortK, eMM, aHoleQ, aHole, aNil_ok, aCons, oNone_ok, oSome, eSlice, eSliceL, iSeqA, iSeq, iRange, iArg, ePeek, tPeek, eOwnM, tYes_ok, bind_ok, bind_exc, bind_stuck, of_some, flatD, SW.gName, List.getD_cons_zero, List.getD_cons_succ, List.set_cons_zero, List.set_cons_succ, List.map_cons, List.map_nil, List.length_cons, List.length_nil, List.cons_append, List.nil_append, List.replicate, Nat.reduceAdd, Nat.reduceSub, addD_int, subD_int, negD_int, repD_int, modD_int, fdivD_int, ltA_int, leA_int, gtA_int, geA_int, eqD_int, neD_int, pow_10_18, pow_10_60, decide_eq_true d0, Bool.not_true, Bool.false_eq_true, if_false, Nat.gcd_zero_right]
      rfl
    · have d0 : ¬ ((b : Nat) : Int) = 0 := by omega
      have dp : (0 : Int) < ((b : Nat) : Int) := by omega
      have hm : a % b < b := Nat.mod_lt _ (by omega)
      have ih := gcd_loop2 n b (a % b) x y (by omega)
      have eg : Nat.gcd b (a % b) = Nat.gcd a b := by rw [Nat.gcd_comm a b, Nat.gcd_rec b a, Nat.gcd_comm]
      have em : ((a : Nat) : Int) % ((b : Nat) : Int) = ((a % b : Nat) : Int) := (Int.natCast_emod a b).symm
      rw [eg] at ih
      unfold whileL
      simp (disch := first | assumption | decide | omega) only [tVal, eOp2, eVar, eCon_ok, bind_ok, of_some, neD_int, List.getD_cons_zero, List.getD_cons_succ, decide_eq_false d0, Bool.not_false, if_true, sPar, aCons, aNil_ok, modD_int dp, em, List.set_cons_zero, List.set_cons_succ]
      exact ih
theorem law_low_ok (t : Int) {d : Nat} (hd : d ≠ 0) : m__law_low [.int t, .int ((d : Nat) : Int)] = .ok (eRat.en (mkRat t d), .non) := by
  have e := gcd_loop2 (d + 1) t.natAbs d (some (.int t)) (some (.int ((d : Nat) : Int))) (by omega)
  have ef : fuelInt 3 [some (.int t), some (.int ((d : Nat) : Int)), some (.int ((t.natAbs : Nat) : Int)), some (.int ((d : Nat) : Int))] = d + 1 := by
    show ((d : Nat) : Int).natAbs + 1 = _
    rw [Int.natAbs_natCast]
  have g0 : 0 < Nat.gcd t.natAbs d := Nat.gcd_pos_of_pos_right _ (by omega)
  have gl : Nat.gcd t.natAbs d ≤ d := Nat.le_of_dvd (by omega) (Nat.gcd_dvd_right _ _)
  have g1 : (0 : Int) < ((Nat.gcd t.natAbs d : Nat) : Int) := by omega
  have f1 := fdivD_int (i := t) g1
  have f2 := fdivD_int (i := ((d : Nat) : Int)) g1
  have e2 : ((d : Nat) : Int) / ((Nat.gcd t.natAbs d : Nat) : Int) = ((d / Nat.gcd t.natAbs d : Nat) : Int) := (Int.natCast_ediv _ _).symm
  rw [e2] at f2
  show _ = Out.ok (D.tup [.int (mkRat t d).num, .int (((mkRat t d).den : Nat) : Int)], _)
  rw [mkRat_num' t hd, mkRat_den' t hd]
  simp (disch := first | assumption | decide | omega) only [m__law_low, b__law_low, runF, m0, sSeq, sSet, sIf, sRet, sRetN, sExpr, sSkip_ok, sSetA, sSetIx, sFor, sPar, sBind, sAug, eVar, eCon_ok, eOp2, eOp1, eCall, eCallM, eCallT, eTup, eLst, eArg, eIf, tVal, tNotF, tAndF, tOrF, eB, eAndF, eOrF, eNotF, eIxA, eIxO, eCatO, ixA_lst, ixA_tup, ixA_scr, eDNew, eDGet, eDGetO, eDPop, eSortK, eMM, aHoleQ, aHole, aNil_ok, aCons, oNone_ok, oSome, eSlice, eSliceL, iSeqA, iSeq, iRange, iArg, ePeek, tPeek, eOwnM, tYes_ok, bind_ok, bind_exc, bind_stuck, of_some, flatD, SW.gName, List.getD_cons_zero, List.getD_cons_succ, List.set_cons_zero, List.set_cons_succ, List.map_cons, List.map_nil, List.length_cons, List.length_nil, List.cons_append, List.nil_append, List.replicate, Nat.reduceAdd, Nat.reduceSub, addD_int, subD_int, negD_int, repD_int, modD_int, fdivD_int, ltA_int, leA_int, gtA_int, geA_int, eqD_int, neD_int, pow_10_18, pow_10_60, absD_int, sWhile, ef]
  rw [e]
  simp (disch := first | assumption | decide | omega) only [runF, m0, sSeq, sSet, sIf, sRet, sRetN, sExpr, sSkip_ok, sSetA, sSetIx, sFor, sPar, sBind, sAug, eVar, eCon_ok, eOp2, eOp1, eCall, eCallM, eCallT, eTup, eLst, eArg, eIf, tVal, tNotF, tAndF, tOrF, eB, eAndF, eOrF, eNotF, eIxA, eIxO, eCatO, ixA_lst, ixA_tup, ixA_scr, eDNew, eDGet, eDGetO, eDPop, eSortK, eMM, aHoleQ, aHole, aNil_ok, aCons, oNone_ok, oSome, eSlice, eSliceL, iSeqA, iSeq, iRange, iArg, ePeek, tPeek, eOwnM, tYes_ok, bind_ok, bind_exc, bind_stuck, of_some, flatD, SW.gName, List.getD_cons_zero, List.getD_cons_succ, List.set_cons_zero, List.set_cons_succ, List.map_cons, List.map_nil, List.length_cons, List.length_nil, List.cons_append, List.nil_append, List.replicate, Nat.reduceAdd, Nat.reduceSub, addD_int, subD_int, negD_int, repD_int, modD_int, fdivD_int, ltA_int, leA_int, gtA_int, geA_int, eqD_int, neD_int, pow_10_18, pow_10_60, f1, f2]
/-! numbers and words that texts write -/
def figT (l : Tx) : Option Nat := if (l ≠ [] ∧ l.length ≤ 9 ∧ ∀ c ∈ l, c ∈ figs) ∧ (l.take 1 ≠ [48] ∨ l = [48]) then some (NumText.digitsVal l) else none
def oN : Option Nat → D
  | none => .non
  | some n => .int ((n : Nat) : Int)
theorem all_digits {l : Tx} (h : ∀ c ∈ l, c ∈ figs) : NumText.AllDigits l := fun c hc => (fig_mem c).mp (h c hc)
theorem notfigs_comp {l : Tx} (hl : l.length ≤ 16000000) : eComp [1] (iSigns (eVar 0)) (gName 1) (tVal (eOp2 notInS (eVar 1) (eCon (.str (sT figs))))) (eVar 1) [some (.str (sT l)), none] = .ok (.lst ((l.filter fun c => !decide (c ∈ figs)).map fun c => D.str (sT [c])), [some (.str (sT l)), none]) := by
  have e := compL_of (vs := [1]) (b := gName 1) (tt := (tVal (eOp2 notInS (eVar 1) (eCon (.str (sT figs)))))) (fe := eVar 1) (f := fun c : Nat => D.str (sT [c])) (ρ := [some (.str (sT l)), none]) (c := fun c => !decide (c ∈ figs)) (h := fun c => D.str (sT [c])) l (by
    intro c _
    refine ⟨[some (.str (sT l)), some (.str (sT [c]))], rfl, [some (.str (sT l)), some (.str (sT [c]))], ?_, fun _ => rfl, fun _ => ⟨[some (.str (sT l)), some (.str (sT [c]))], rfl, rfl⟩⟩
    simp (disch := first | assumption | decide | omega) only [runF, m0, sSeq, sSet, sIf, sRet, sRetN, sExpr, sSkip_ok, sSetA, sSetIx, sFor, sPar, sBind, sAug, eVar, eCon_ok, eOp2, eOp1, eCall, eCallM, eCallT, eTup, eLst, eArg, eIf, tVal, tNotF, tAndF, tOrF, eB, eAndF, eOrF, eNotF, eIxA, eIxO, eCatO, ixA_lst, ixA_tup, ixA_scr, eDNew, eDGet, eDGetO, eDPop, eSortK, eMM, aHoleQ, aHole, aNil_ok, aCons, oNone_ok, oSome, eSlice, eSliceL, iSeqA, iSeq, iRange, iArg, ePeek, tPeek, eOwnM, tYes_ok, bind_ok, bind_exc, bind_stuck, of_some, flatD, SW.gName, List.getD_cons_zero, List.getD_cons_succ, List.set_cons_zero, List.set_cons_succ, List.map_cons, List.map_nil, List.length_cons, List.length_nil, List.cons_append, List.nil_append, List.replicate, Nat.reduceAdd, Nat.reduceSub, addD_int, subD_int, negD_int, repD_int, modD_int, fdivD_int, ltA_int, leA_int, gtA_int, geA_int, eqD_int, neD_int, pow_10_18, pow_10_60, notInT])
  have i1 := iSignsT (f := eVar 0) (ρ := [some (.str (sT l)), none]) (ρ1 := [some (.str (sT l)), none]) hl rfl
  simp (disch := first | assumption | decide | omega) only [eComp, i1, bind_ok, e]
theorem filter_figs (l : Tx) : ((l.filter fun c => !decide (c ∈ figs)) = []) ↔ ∀ c ∈ l, c ∈ figs := by
  rw [List.filter_eq_nil_iff]
  simp
theorem ok1 {l : Tx} (h : OkT l) : ∀ x ∈ (l.filter fun c => !decide (c ∈ figs)).map (fun c => [c]), OkT x := by
  intro x hx
  obtain ⟨c, hc, rfl⟩ := List.mem_map.mp hx
  intro d hd
  rw [List.mem_singleton] at hd
  subst hd
  exact h _ (List.mem_filter.mp hc).1
theorem ok_lit {l : Tx} (h : l.all (· < 1114112) = true) : OkT l := fun c hc => by simpa using List.all_eq_true.mp h c hc
theorem head48 (c : Nat) (l : Tx) : ((c :: l).take 1 = [48]) ↔ c = 48 := by simp
theorem figures_in_ok {l : Tx} (ho : OkT l) (hl : l.length ≤ 16000000) : m_figures_in [.str (sT l)] = .ok (oN (figT l), .non) := by
  have kf : k_FIGURES = .str (sT figs) := by unfold k_FIGURES; rw [l_figs]
  have km : k_MOST_FIGURES = .int 9 := rfl
  have q1 := eqT ho (ok_lit (l := []) rfl)
  have q2 := lenT hl
  have q3 := notfigs_comp hl
  have q4 := neT0 (ok1 ho)
  rw [List.map_map] at q4
  have e4 : ((fun l => D.str (sT l)) ∘ fun c => [c]) = fun c => D.str (sT [c]) := rfl
  rw [e4] at q4
  by_cases h0 : l = []
  · have d0 : figT l = none := by unfold figT; rw [if_neg]; exact fun h => h.1.1 h0
    rw [d0]
    simp (disch := first | assumption | decide | omega) only [m_figures_in, b_figures_in, runF, m0, sSeq, sSet, sIf, sRet, sRetN, sExpr, sSkip_ok, sSetA, sSetIx, sFor, sPar, sBind, sAug, eVar, eCon_ok, eOp2, eOp1, eCall, eCallM, eCallT, eTup, eLst, eArg, eIf, tVal, tNotF, tAndF, tOrF, eB, eAndF, eOrF, eNotF, eIxA, eIxO, eCatO, ixA_lst, ixA_tup, ixA_scr, eDNew, eDGet, eDGetO, eDPop, eSortK, eMM, aHoleQ, aHole, aNil_ok, aCons, oNone_ok, oSome, eSlice, eSliceL, iSeqA, iSeq, iRange, iArg, ePeek, tPeek, eOwnM, tYes_ok, bind_ok, bind_exc, bind_stuck, of_some, flatD, SW.gName, List.getD_cons_zero, List.getD_cons_succ, List.set_cons_zero, List.set_cons_succ, List.map_cons, List.map_nil, List.length_cons, List.length_nil, List.cons_append, List.nil_append, List.replicate, Nat.reduceAdd, Nat.reduceSub, addD_int, subD_int, negD_int, repD_int, modD_int, fdivD_int, ltA_int, leA_int, gtA_int, geA_int, eqD_int, neD_int, pow_10_18, pow_10_60, l_empty, l_zero, kf, km, q1, decide_eq_true h0, if_true, oN]
  · obtain ⟨c, r, rfl⟩ : ∃ c r, l = c :: r := by
      cases l with
      | nil => exact (h0 rfl).elim
      | cons c r => exact ⟨c, r, rfl⟩
    have q5 := ix0T hl
    have oc : OkT [c] := fun d hd => by rw [List.mem_singleton] at hd; subst hd; exact ho _ List.mem_cons_self
    have q6 := eqT oc (ok_lit (l := [48]) rfl)
    have q7 := neT ho (ok_lit (l := [48]) rfl)
    obtain ⟨N, hN⟩ : ∃ N : Int, N = (((c :: r).length : Nat) : Int) := ⟨_, rfl⟩
    rw [← hN] at q2
    by_cases h9 : (9 : Int) < N
    · have d0 : figT (c :: r) = none := by unfold figT; rw [if_neg]; exact fun h => by have := h.1.2.1; omega
      rw [d0]
      simp (disch := first | assumption | decide | omega) only [m_figures_in, b_figures_in, runF, m0, sSeq, sIf, tOrF, tVal, eOp2, eVar, eCon_ok, eArg, aCons, aNil_ok, bind_ok, of_some, List.getD_cons_zero, List.getD_cons_succ, List.map_cons, List.map_nil, List.replicate, List.cons_append, List.nil_append, Nat.reduceSub, l_empty, l_zero, kf, km, q1, decide_eq_false h0, q2, gtA_int, decide_eq_true h9, Bool.false_eq_true, if_false, if_true, sRet, oN, List.length_cons, List.length_nil, Nat.reduceAdd]
    · have hn : ((c :: r).length : Nat) ≤ 9 := by omega
      by_cases hd : ∀ x ∈ (c :: r), x ∈ figs
      · have hf : (((c :: r).filter fun c => !decide (c ∈ figs)).map fun c => [c]) = [] := by rw [(filter_figs (c :: r)).mpr hd]; rfl
        have hi := intT (all_digits hd) h0 hn
        by_cases hc : c = 48
        · by_cases hz : c :: r = [48]
          · have d0 : figT (c :: r) = some (NumText.digitsVal (c :: r)) := by unfold figT; rw [if_pos]; exact ⟨⟨h0, hn, hd⟩, .inr hz⟩
            have hc' : [c] = [48] := by rw [hc]
            rw [d0]
            simp (disch := first | assumption | decide | omega) only [m_figures_in, b_figures_in, runF, m0, sSeq, sIf, tOrF, tAndF, tVal, eOp2, eVar, eCon_ok, eArg, aCons, aNil_ok, eLst, bind_ok, of_some, List.getD_cons_zero, List.getD_cons_succ, List.map_cons, List.map_nil, List.replicate, List.cons_append, List.nil_append, Nat.reduceSub, l_empty, l_zero, kf, km, q1, decide_eq_false h0, q2, gtA_int, decide_eq_false h9, Bool.false_eq_true, if_false, if_true, sRet, oN, List.length_cons, List.length_nil, Nat.reduceAdd, q3, q4, decide_eq_true hf, Bool.not_true, q5, q6, decide_eq_true hc', q7, decide_eq_true hz, sSkip_ok, hi]
          · have d0 : figT (c :: r) = none := by unfold figT; rw [if_neg]; exact fun h => h.2.elim (fun z => z (by rw [hc]; rfl)) hz
            have hc' : [c] = [48] := by rw [hc]
            rw [d0]
            simp (disch := first | assumption | decide | omega) only [m_figures_in, b_figures_in, runF, m0, sSeq, sIf, tOrF, tAndF, tVal, eOp2, eVar, eCon_ok, eArg, aCons, aNil_ok, eLst, bind_ok, of_some, List.getD_cons_zero, List.getD_cons_succ, List.map_cons, List.map_nil, List.replicate, List.cons_append, List.nil_append, Nat.reduceSub, l_empty, l_zero, kf, km, q1, decide_eq_false h0, q2, gtA_int, decide_eq_false h9, Bool.false_eq_true, if_false, if_true, sRet, oN, List.length_cons, List.length_nil, Nat.reduceAdd, q3, q4, decide_eq_true hf, Bool.not_true, Bool.not_false, q5, q6, decide_eq_true hc', q7, decide_eq_false hz, sSkip_ok]
        · have d0 : figT (c :: r) = some (NumText.digitsVal (c :: r)) := by unfold figT; rw [if_pos]; exact ⟨⟨h0, hn, hd⟩, .inl fun z => hc ((head48 c r).mp z)⟩
          have hc' : ¬ [c] = [48] := fun z => hc (by simpa using z)
          rw [d0]
          simp (disch := first | assumption | decide | omega) only [m_figures_in, b_figures_in, runF, m0, sSeq, sIf, tOrF, tAndF, tVal, eOp2, eVar, eCon_ok, eArg, aCons, aNil_ok, eLst, bind_ok, of_some, List.getD_cons_zero, List.getD_cons_succ, List.map_cons, List.map_nil, List.replicate, List.cons_append, List.nil_append, Nat.reduceSub, l_empty, l_zero, kf, km, q1, decide_eq_false h0, q2, gtA_int, decide_eq_false h9, Bool.false_eq_true, if_false, if_true, sRet, oN, List.length_cons, List.length_nil, Nat.reduceAdd, q3, q4, decide_eq_true hf, Bool.not_true, q5, q6, decide_eq_false hc', sSkip_ok, hi]
      · have hf : ¬ (((c :: r).filter fun c => !decide (c ∈ figs)).map fun c => [c]) = [] := fun z => hd ((filter_figs (c :: r)).mp (List.map_eq_nil_iff.mp z))
        have d0 : figT (c :: r) = none := by unfold figT; rw [if_neg]; exact fun h => hd h.1.2.2
        rw [d0]
        simp (disch := first | assumption | decide | omega) only [m_figures_in, b_figures_in, runF, m0, sSeq, sIf, tOrF, tAndF, tVal, eOp2, eVar, eCon_ok, eArg, aCons, aNil_ok, eLst, bind_ok, of_some, List.getD_cons_zero, List.getD_cons_succ, List.map_cons, List.map_nil, List.replicate, List.cons_append, List.nil_append, Nat.reduceSub, l_empty, l_zero, kf, km, q1, decide_eq_false h0, q2, gtA_int, decide_eq_false h9, Bool.false_eq_true, if_false, if_true, sRet, oN, List.length_cons, List.length_nil, Nat.reduceAdd, q3, q4, decide_eq_false hf, Bool.not_false]
/-- the whole number that a text writes -/
def wholeT : Tx → Option Int
  | 45 :: r => match figT r with
    | some n => if n = 0 then none else some (-((n : Nat) : Int))
    | none => none
  | l => (figT l).map fun n => ((n : Nat) : Int)
def oI : Option Int → D
  | none => .non
  | some n => .int n
theorem isNon_int (i : Int) : isNon (.int i) .non = some (.bl false) := rfl
theorem isNon_non : isNon .non .non = some (.bl true) := rfl
theorem okT_tail {c : Nat} {l : Tx} (h : OkT (c :: l)) : OkT l := fun d hd => h d (List.mem_cons_of_mem _ hd)
theorem wholeT_pos {l : Tx} (h : l.take 1 ≠ [45]) : wholeT l = (figT l).map fun n => ((n : Nat) : Int) := by
  unfold wholeT
  split
  · exact (h rfl).elim
  · rfl
theorem okT_take {l : Tx} (h : OkT l) (n : Nat) : OkT (l.take n) := fun c hc => h c (List.mem_of_mem_take hc)
theorem oI_map (o : Option Nat) : oI (o.map fun n => ((n : Nat) : Int)) = oN o := by cases o <;> rfl
theorem whole_in_ok {l : Tx} (ho : OkT l) (hl : l.length ≤ 16000000) : m_whole_in [.str (sT l)] = .ok (oI (wholeT l), .non) := by
  have s1 := take1T hl
  have s2 := drop1T hl
  have q1 := eqT (okT_take ho 1) (ok_lit (l := [45]) rfl)
  by_cases h : l.take 1 = [45]
  · obtain ⟨r, rfl⟩ : ∃ r, l = 45 :: r := by
      cases l with
      | nil => cases h
      | cons c r =>
        have hc : c = 45 := by simpa using h
        exact ⟨r, by rw [hc]⟩
    have f1 := figures_in_ok (okT_tail ho) (by rw [List.length_cons] at hl; omega)
    have ed : (45 :: r).drop 1 = r := rfl
    rw [ed] at s2
    cases e : figT r with
    | none =>
      have d0 : wholeT (45 :: r) = none := by simp [wholeT, e]
      rw [e] at f1
      rw [d0]
      simp (disch := first | assumption | decide | omega) only [m_whole_in, b_whole_in, runF, m0, sSeq, sSet, sIf, sRet, sRetN, sExpr, sSkip_ok, sSetA, sSetIx, sFor, sPar, sBind, sAug, eVar, eCon_ok, eOp2, eOp1, eCall, eCallM, eCallT, eTup, eLst, eArg, eIf, tVal, tNotF, tAndF, tOrF, eB, eAndF, eOrF, eNotF, eIxA, eIxO, eCatO, ixA_lst, ixA_tup, ixA_scr, eDNew, eDGet, eDGetO, eDPop, eSortK, eMM, aHoleQ, aHole, aNil_ok, aCons, oNone_ok, oSome, eSlice, eSliceL, iSeqA, iSeq, iRange, iArg, ePeek, tPeek, eOwnM, tYes_ok, bind_ok, bind_exc, bind_stuck, of_some, flatD, SW.gName, List.getD_cons_zero, List.getD_cons_succ, List.set_cons_zero, List.set_cons_succ, List.map_cons, List.map_nil, List.length_cons, List.length_nil, List.cons_append, List.nil_append, List.replicate, Nat.reduceAdd, Nat.reduceSub, addD_int, subD_int, negD_int, repD_int, modD_int, fdivD_int, ltA_int, leA_int, gtA_int, geA_int, eqD_int, neD_int, pow_10_18, pow_10_60, eSliceS, s1, s2, l_minus, q1, decide_eq_true h, if_true, f1, oN, isNon_non, oI]
    | some n =>
      rw [e] at f1
      by_cases hn : n = 0
      · have d0 : wholeT (45 :: r) = none := by simp [wholeT, e, hn]
        have d1 : ((n : Nat) : Int) = 0 := by omega
        rw [d0]
        simp (disch := first | assumption | decide | omega) only [m_whole_in, b_whole_in, runF, m0, sSeq, sSet, sIf, sRet, sRetN, sExpr, sSkip_ok, sSetA, sSetIx, sFor, sPar, sBind, sAug, eVar, eCon_ok, eOp2, eOp1, eCall, eCallM, eCallT, eTup, eLst, eArg, eIf, tVal, tNotF, tAndF, tOrF, eB, eAndF, eOrF, eNotF, eIxA, eIxO, eCatO, ixA_lst, ixA_tup, ixA_scr, eDNew, eDGet, eDGetO, eDPop, eSortK, eMM, aHoleQ, aHole, aNil_ok, aCons, oNone_ok, oSome, eSlice, eSliceL, iSeqA, iSeq, iRange, iArg, ePeek, tPeek, eOwnM, tYes_ok, bind_ok, bind_exc, bind_stuck, of_some, flatD, SW.gName, List.getD_cons_zero, List.getD_cons_succ, List.set_cons_zero, List.set_cons_succ, List.map_cons, List.map_nil, List.length_cons, List.length_nil, List.cons_append, List.nil_append, List.replicate, Nat.reduceAdd, Nat.reduceSub, addD_int, subD_int, negD_int, repD_int, modD_int, fdivD_int, ltA_int, leA_int, gtA_int, geA_int, eqD_int, neD_int, pow_10_18, pow_10_60, eSliceS, s1, s2, l_minus, q1, decide_eq_true h, if_true, f1, oN, isNon_int, oI, decide_eq_true d1, Bool.false_eq_true, if_false]
      · have d0 : wholeT (45 :: r) = some (-((n : Nat) : Int)) := by simp [wholeT, e, hn]
        have d1 : ¬ ((n : Nat) : Int) = 0 := by omega
        have d2 : (0 : Int) - ((n : Nat) : Int) = -((n : Nat) : Int) := by omega
        rw [d0]
        simp (disch := first | assumption | decide | omega) only [m_whole_in, b_whole_in, runF, m0, sSeq, sSet, sIf, sRet, sRetN, sExpr, sSkip_ok, sSetA, sSetIx, sFor, sPar, sBind, sAug, eVar, eCon_ok, eOp2, eOp1, eCall, eCallM, eCallT, eTup, eLst, eArg, eIf, tVal, tNotF, tAndF, tOrF, eB, eAndF, eOrF, eNotF, eIxA, eIxO, eCatO, ixA_lst, ixA_tup, ixA_scr, eDNew, eDGet, eDGetO, eDPop, eSortK, eMM, aHoleQ, aHole, aNil_ok, aCons, oNone_ok, oSome, eSlice, eSliceL, iSeqA, iSeq, iRange, iArg, ePeek, tPeek, eOwnM, tYes_ok, bind_ok, bind_exc, bind_stuck, of_some, flatD, SW.gName, List.getD_cons_zero, List.getD_cons_succ, List.set_cons_zero, List.set_cons_succ, List.map_cons, List.map_nil, List.length_cons, List.length_nil, List.cons_append, List.nil_append, List.replicate, Nat.reduceAdd, Nat.reduceSub, addD_int, subD_int, negD_int, repD_int, modD_int, fdivD_int, ltA_int, leA_int, gtA_int, geA_int, eqD_int, neD_int, pow_10_18, pow_10_60, eSliceS, s1, s2, l_minus, q1, decide_eq_true h, if_true, f1, oN, isNon_int, oI, decide_eq_false d1, Bool.false_eq_true, if_false, d2]
  · have f1 := figures_in_ok ho hl
    rw [wholeT_pos h, oI_map]
    simp (disch := first | assumption | decide | omega) only [m_whole_in, b_whole_in, runF, m0, sSeq, sSet, sIf, sRet, sRetN, sExpr, sSkip_ok, sSetA, sSetIx, sFor, sPar, sBind, sAug, eVar, eCon_ok, eOp2, eOp1, eCall, eCallM, eCallT, eTup, eLst, eArg, eIf, tVal, tNotF, tAndF, tOrF, eB, eAndF, eOrF, eNotF, eIxA, eIxO, eCatO, ixA_lst, ixA_tup, ixA_scr, eDNew, eDGet, eDGetO, eDPop, eSortK, eMM, aHoleQ, aHole, aNil_ok, aCons, oNone_ok, oSome, eSlice, eSliceL, iSeqA, iSeq, iRange, iArg, ePeek, tPeek, eOwnM, tYes_ok, bind_ok, bind_exc, bind_stuck, of_some, flatD, SW.gName, List.getD_cons_zero, List.getD_cons_succ, List.set_cons_zero, List.set_cons_succ, List.map_cons, List.map_nil, List.length_cons, List.length_nil, List.cons_append, List.nil_append, List.replicate, Nat.reduceAdd, Nat.reduceSub, addD_int, subD_int, negD_int, repD_int, modD_int, fdivD_int, ltA_int, leA_int, gtA_int, geA_int, eqD_int, neD_int, pow_10_18, pow_10_60, eSliceS, s1, l_minus, q1, decide_eq_false h, Bool.false_eq_true, if_false, f1]
/-- the number that a text writes -/
def numT (l : Tx) : Option Rat := match partT 47 l with
  | none => Option.map (fun n : Int => (n : Rat)) (wholeT l)
  | some (a, b) => match wholeT a, figT b with
    | some n, some d => if 2 ≤ d ∧ Nat.gcd n.natAbs d = 1 then some (mkRat n d) else none
    | _, _ => none
def oR : Option Rat → D
  | none => .non
  | some q => eRat.en q
theorem is_number_gen (n : Int) (d : Nat) (h : 1 ≤ d) : m_is_number [.tup [.int n, .int ((d : Nat) : Int)]] = .ok (.bl (decide (Nat.gcd n.natAbs d = 1)), .non) := by
  have e := divisor_ok n ((d : Nat) : Int)
  rw [Int.natAbs_natCast] at e
  have d1 : (1 : Int) ≤ ((d : Nat) : Int) := by omega
  have i0 : isiD [.tup [.int n, .int ((d : Nat) : Int)], .ty .tuple] = some (.bl true) := rfl
  have l0 : lenA [.tup [.int n, .int ((d : Nat) : Int)]] = some (.int 2) := rfl
  have x0 : ixA (.tup [.int n, .int ((d : Nat) : Int)]) (.int 0) = some (.int n) := rfl
  have x1 : ixA (.tup [.int n, .int ((d : Nat) : Int)]) (.int 1) = some (.int ((d : Nat) : Int)) := rfl
  have d2 : (2 : Int) = 2 := rfl
  have eg : decide (((Nat.gcd n.natAbs d : Nat) : Int) = 1) = decide (Nat.gcd n.natAbs d = 1) := by rw [Bool.eq_iff_iff, decide_eq_true_iff, decide_eq_true_iff]; omega
  simp (disch := first | assumption | decide | omega) only [m_is_number, b_is_number, runF, m0, sSeq, sIf, tOrF, tNotF, tVal, eOp2, eVar, eCon_ok, eArg, aCons, aNil_ok, eCall, eAndF, bind_ok, of_some, List.getD_cons_zero, List.getD_cons_succ, List.map_cons, List.map_nil, List.replicate, List.cons_append, List.nil_append, Nat.reduceSub, List.length_cons, List.length_nil, Nat.reduceAdd, i0, l0, x0, x1, neD_int, decide_true, decide_eq_true d2, Bool.not_true, Bool.false_eq_true, if_false, is_whole_ok, sSkip_ok, sRet, geA_int, decide_eq_true d1, e, eqD_int, eg]
theorem rat_low {n : Int} {d : Nat} (h : 1 ≤ d) (g : Nat.gcd n.natAbs d = 1) : eRat.en (mkRat n d) = .tup [.int n, .int ((d : Nat) : Int)] := by
  show D.tup [.int (mkRat n d).num, .int (((mkRat n d).den : Nat) : Int)] = _
  rw [mkRat_num' n (by omega), mkRat_den' n (by omega), g]
  simp
theorem rat_int (n : Int) : eRat.en (n : Rat) = .tup [.int n, .int 1] := rfl
theorem okT_part {l a b : Tx} {s : Nat} (ho : OkT l) (h : partT s l = some (a, b)) : OkT a ∧ OkT b := by
  have e := (part_some h).2.1
  subst e
  exact ⟨fun c hc => ho c (by simp [hc]), fun c hc => ho c (by simp [hc])⟩
theorem len_part {l a b : Tx} {s : Nat} (h : partT s l = some (a, b)) : a.length ≤ l.length ∧ b.length ≤ l.length := by
  have e := (part_some h).2.1
  subst e
  simp only [List.length_append, List.length_cons]
  omega
theorem number_in_ok {l : Tx} (ho : OkT l) (hl : l.length ≤ 16000000) : m_number_in [.str (sT l)] = .ok (oR (numT l), .non) := by
  have p1 := partOkT 47 hl
  cases e : partT 47 l with
  | none =>
    rw [e] at p1
    have w1 := whole_in_ok ho hl
    have q1 := eqT (ok_lit (l := []) rfl) (ok_lit (l := [47]) rfl)
    have n0 : ¬ ([] : Tx) = [47] := by simp
    rw [decide_eq_false n0] at q1
    have d0 : numT l = Option.map (fun n : Int => (n : Rat)) (wholeT l) := by unfold numT; rw [e]
    rw [d0]
    cases ew : wholeT l with
    | none =>
      rw [ew] at w1
      simp (disch := first | assumption | decide | omega) only [m_number_in, b_number_in, runF, m0, sSeq, sSet, sIf, sRet, sRetN, sExpr, sSkip_ok, sSetA, sSetIx, sFor, sPar, sBind, sAug, eVar, eCon_ok, eOp2, eOp1, eCall, eCallM, eCallT, eTup, eLst, eArg, eIf, tVal, tNotF, tAndF, tOrF, eB, eAndF, eOrF, eNotF, eIxA, eIxO, eCatO, ixA_lst, ixA_tup, ixA_scr, eDNew, eDGet, eDGetO, eDPop, eSortK, eMM, aHoleQ, aHole, aNil_ok, aCons, oNone_ok, oSome, eSlice, eSliceL, iSeqA, iSeq, iRange, iArg, ePeek, tPeek, eOwnM, tYes_ok, bind_ok, bind_exc, bind_stuck, of_some, flatD, SW.gName, List.getD_cons_zero, List.getD_cons_succ, List.set_cons_zero, List.set_cons_succ, List.map_cons, List.map_nil, List.length_cons, List.length_nil, List.cons_append, List.nil_append, List.replicate, Nat.reduceAdd, Nat.reduceSub, addD_int, subD_int, negD_int, repD_int, modD_int, fdivD_int, ltA_int, leA_int, gtA_int, geA_int, eqD_int, neD_int, pow_10_18, pow_10_60, eTm, l_slash, p1, SW.gTup, SW.gCons, SW.gNil, w1, oI, q1, Bool.false_eq_true, if_false, isNon_non, if_true, Option.map_none, oR, Option.bind_some]
    | some n =>
      rw [ew] at w1
      have nn := is_number_gen n 1 (by omega)
      rw [decide_eq_true (Nat.gcd_one_right n.natAbs)] at nn
      have c1 : ((1 : Nat) : Int) = 1 := rfl
      rw [c1] at nn
      simp (disch := first | assumption | decide | omega) only [m_number_in, b_number_in, runF, m0, sSeq, sSet, sIf, sRet, sRetN, sExpr, sSkip_ok, sSetA, sSetIx, sFor, sPar, sBind, sAug, eVar, eCon_ok, eOp2, eOp1, eCall, eCallM, eCallT, eTup, eLst, eArg, eIf, tVal, tNotF, tAndF, tOrF, eB, eAndF, eOrF, eNotF, eIxA, eIxO, eCatO, ixA_lst, ixA_tup, ixA_scr, eDNew, eDGet, eDGetO, eDPop, eSortK, eMM, aHoleQ, aHole, aNil_ok, aCons, oNone_ok, oSome, eSlice, eSliceL, iSeqA, iSeq, iRange, iArg, ePeek, tPeek, eOwnM, tYes_ok, bind_ok, bind_exc, bind_stuck, of_some, flatD, SW.gName, List.getD_cons_zero, List.getD_cons_succ, List.set_cons_zero, List.set_cons_succ, List.map_cons, List.map_nil, List.length_cons, List.length_nil, List.cons_append, List.nil_append, List.replicate, Nat.reduceAdd, Nat.reduceSub, addD_int, subD_int, negD_int, repD_int, modD_int, fdivD_int, ltA_int, leA_int, gtA_int, geA_int, eqD_int, neD_int, pow_10_18, pow_10_60, eTm, l_slash, p1, SW.gTup, SW.gCons, SW.gNil, w1, oI, q1, Bool.false_eq_true, if_false, if_true, isNon_int, Option.map_some, oR, nn, Bool.not_true, rat_int, Option.bind_some]
  | some p =>
    obtain ⟨a, b⟩ := p
    rw [e] at p1
    obtain ⟨oa, ob⟩ := okT_part ho e
    obtain ⟨la, lb⟩ := len_part e
    have w1 := whole_in_ok oa (by omega)
    have f1 := figures_in_ok ob (by omega)
    have q1 := eqT (ok_lit (l := [47]) rfl) (ok_lit (l := [47]) rfl)
    rw [decide_eq_true rfl] at q1
    cases ef : figT b with
    | none =>
      rw [ef] at f1
      have d0 : numT l = none := by unfold numT; rw [e]; dsimp only; rw [ef]; cases wholeT a <;> rfl
      rw [d0]
      cases ew : wholeT a with
      | none =>
        rw [ew] at w1
        simp (disch := first | assumption | decide | omega) only [m_number_in, b_number_in, runF, m0, sSeq, sSet, sIf, sRet, sRetN, sExpr, sSkip_ok, sSetA, sSetIx, sFor, sPar, sBind, sAug, eVar, eCon_ok, eOp2, eOp1, eCall, eCallM, eCallT, eTup, eLst, eArg, eIf, tVal, tNotF, tAndF, tOrF, eB, eAndF, eOrF, eNotF, eIxA, eIxO, eCatO, ixA_lst, ixA_tup, ixA_scr, eDNew, eDGet, eDGetO, eDPop, eSortK, eMM, aHoleQ, aHole, aNil_ok, aCons, oNone_ok, oSome, eSlice, eSliceL, iSeqA, iSeq, iRange, iArg, ePeek, tPeek, eOwnM, tYes_ok, bind_ok, bind_exc, bind_stuck, of_some, flatD, SW.gName, List.getD_cons_zero, List.getD_cons_succ, List.set_cons_zero, List.set_cons_succ, List.map_cons, List.map_nil, List.length_cons, List.length_nil, List.cons_append, List.nil_append, List.replicate, Nat.reduceAdd, Nat.reduceSub, addD_int, subD_int, negD_int, repD_int, modD_int, fdivD_int, ltA_int, leA_int, gtA_int, geA_int, eqD_int, neD_int, pow_10_18, pow_10_60, eTm, l_slash, p1, SW.gTup, SW.gCons, SW.gNil, w1, oI, q1, if_true, f1, oN, isNon_non, oR, Option.bind_some]
      | some n =>
        rw [ew] at w1
        simp (disch := first | assumption | decide | omega) only [m_number_in, b_number_in, runF, m0, sSeq, sSet, sIf, sRet, sRetN, sExpr, sSkip_ok, sSetA, sSetIx, sFor, sPar, sBind, sAug, eVar, eCon_ok, eOp2, eOp1, eCall, eCallM, eCallT, eTup, eLst, eArg, eIf, tVal, tNotF, tAndF, tOrF, eB, eAndF, eOrF, eNotF, eIxA, eIxO, eCatO, ixA_lst, ixA_tup, ixA_scr, eDNew, eDGet, eDGetO, eDPop, eSortK, eMM, aHoleQ, aHole, aNil_ok, aCons, oNone_ok, oSome, eSlice, eSliceL, iSeqA, iSeq, iRange, iArg, ePeek, tPeek, eOwnM, tYes_ok, bind_ok, bind_exc, bind_stuck, of_some, flatD, SW.gName, List.getD_cons_zero, List.getD_cons_succ, List.set_cons_zero, List.set_cons_succ, List.map_cons, List.map_nil, List.length_cons, List.length_nil, List.cons_append, List.nil_append, List.replicate, Nat.reduceAdd, Nat.reduceSub, addD_int, subD_int, negD_int, repD_int, modD_int, fdivD_int, ltA_int, leA_int, gtA_int, geA_int, eqD_int, neD_int, pow_10_18, pow_10_60, eTm, l_slash, p1, SW.gTup, SW.gCons, SW.gNil, w1, oI, q1, if_true, f1, oN, isNon_non, oR, Option.bind_some]
    | some d =>
      rw [ef] at f1
      by_cases hd : ((d : Nat) : Int) < 2
      · have d0 : numT l = none := by
          unfold numT; rw [e]; dsimp only; rw [ef]
          cases wholeT a with
          | none => rfl
          | some n => dsimp only; rw [if_neg (fun h => by omega)]
        rw [d0]
        cases ew : wholeT a with
        | none =>
          rw [ew] at w1
          simp (disch := first | assumption | decide | omega) only [m_number_in, b_number_in, runF, m0, sSeq, sSet, sIf, sRet, sRetN, sExpr, sSkip_ok, sSetA, sSetIx, sFor, sPar, sBind, sAug, eVar, eCon_ok, eOp2, eOp1, eCall, eCallM, eCallT, eTup, eLst, eArg, eIf, tVal, tNotF, tAndF, tOrF, eB, eAndF, eOrF, eNotF, eIxA, eIxO, eCatO, ixA_lst, ixA_tup, ixA_scr, eDNew, eDGet, eDGetO, eDPop, eSortK, eMM, aHoleQ, aHole, aNil_ok, aCons, oNone_ok, oSome, eSlice, eSliceL, iSeqA, iSeq, iRange, iArg, ePeek, tPeek, eOwnM, tYes_ok, bind_ok, bind_exc, bind_stuck, of_some, flatD, SW.gName, List.getD_cons_zero, List.getD_cons_succ, List.set_cons_zero, List.set_cons_succ, List.map_cons, List.map_nil, List.length_cons, List.length_nil, List.cons_append, List.nil_append, List.replicate, Nat.reduceAdd, Nat.reduceSub, addD_int, subD_int, negD_int, repD_int, modD_int, fdivD_int, ltA_int, leA_int, gtA_int, geA_int, eqD_int, neD_int, pow_10_18, pow_10_60, eTm, l_slash, p1, SW.gTup, SW.gCons, SW.gNil, w1, oI, q1, if_true, f1, oN, isNon_int, oR, decide_eq_true hd, Bool.false_eq_true, if_false, Option.bind_some]
        | some n =>
          rw [ew] at w1
          simp (disch := first | assumption | decide | omega) only [m_number_in, b_number_in, runF, m0, sSeq, sSet, sIf, sRet, sRetN, sExpr, sSkip_ok, sSetA, sSetIx, sFor, sPar, sBind, sAug, eVar, eCon_ok, eOp2, eOp1, eCall, eCallM, eCallT, eTup, eLst, eArg, eIf, tVal, tNotF, tAndF, tOrF, eB, eAndF, eOrF, eNotF, eIxA, eIxO, eCatO, ixA_lst, ixA_tup, ixA_scr, eDNew, eDGet, eDGetO, eDPop, eSortK, eMM, aHoleQ, aHole, aNil_ok, aCons, oNone_ok, oSome, eSlice, eSliceL, iSeqA, iSeq, iRange, iArg, ePeek, tPeek, eOwnM, tYes_ok, bind_ok, bind_exc, bind_stuck, of_some, flatD, SW.gName, List.getD_cons_zero, List.getD_cons_succ, List.set_cons_zero, List.set_cons_succ, List.map_cons, List.map_nil, List.length_cons, List.length_nil, List.cons_append, List.nil_append, List.replicate, Nat.reduceAdd, Nat.reduceSub, addD_int, subD_int, negD_int, repD_int, modD_int, fdivD_int, ltA_int, leA_int, gtA_int, geA_int, eqD_int, neD_int, pow_10_18, pow_10_60, eTm, l_slash, p1, SW.gTup, SW.gCons, SW.gNil, w1, oI, q1, if_true, f1, oN, isNon_int, oR, decide_eq_true hd, Bool.false_eq_true, if_false, Option.bind_some]
      · cases ew : wholeT a with
        | none =>
          have d0 : numT l = none := by unfold numT; rw [e]; dsimp only; rw [ew]
          rw [ew] at w1
          rw [d0]
          simp (disch := first | assumption | decide | omega) only [m_number_in, b_number_in, runF, m0, sSeq, sSet, sIf, sRet, sRetN, sExpr, sSkip_ok, sSetA, sSetIx, sFor, sPar, sBind, sAug, eVar, eCon_ok, eOp2, eOp1, eCall, eCallM, eCallT, eTup, eLst, eArg, eIf, tVal, tNotF, tAndF, tOrF, eB, eAndF, eOrF, eNotF, eIxA, eIxO, eCatO, ixA_lst, ixA_tup, ixA_scr, eDNew, eDGet, eDGetO, eDPop, eSortK, eMM, aHoleQ, aHole, aNil_ok, aCons, oNone_ok, oSome, eSlice, eSliceL, iSeqA, iSeq, iRange, iArg, ePeek, tPeek, eOwnM, tYes_ok, bind_ok, bind_exc, bind_stuck, of_some, flatD, SW.gName, List.getD_cons_zero, List.getD_cons_succ, List.set_cons_zero, List.set_cons_succ, List.map_cons, List.map_nil, List.length_cons, List.length_nil, List.cons_append, List.nil_append, List.replicate, Nat.reduceAdd, Nat.reduceSub, addD_int, subD_int, negD_int, repD_int, modD_int, fdivD_int, ltA_int, leA_int, gtA_int, geA_int, eqD_int, neD_int, pow_10_18, pow_10_60, eTm, l_slash, p1, SW.gTup, SW.gCons, SW.gNil, w1, oI, q1, if_true, f1, oN, isNon_int, isNon_non, oR, decide_eq_false hd, Bool.false_eq_true, if_false, Option.bind_some]
        | some n =>
          rw [ew] at w1
          have nn := is_number_gen n d (by omega)
          by_cases hg : Nat.gcd n.natAbs d = 1
          · have d0 : numT l = some (mkRat n d) := by unfold numT; rw [e]; dsimp only; rw [ew, ef]; dsimp only; rw [if_pos ⟨by omega, hg⟩]
            rw [decide_eq_true hg] at nn
            have rl := rat_low (n := n) (d := d) (by omega) hg
            rw [d0, oR, rl]
            simp (disch := first | assumption | decide | omega) only [m_number_in, b_number_in, runF, m0, sSeq, sSet, sIf, sRet, sRetN, sExpr, sSkip_ok, sSetA, sSetIx, sFor, sPar, sBind, sAug, eVar, eCon_ok, eOp2, eOp1, eCall, eCallM, eCallT, eTup, eLst, eArg, eIf, tVal, tNotF, tAndF, tOrF, eB, eAndF, eOrF, eNotF, eIxA, eIxO, eCatO, ixA_lst, ixA_tup, ixA_scr, eDNew, eDGet, eDGetO, eDPop, eSortK, eMM, aHoleQ, aHole, aNil_ok, aCons, oNone_ok, oSome, eSlice, eSliceL, iSeqA, iSeq, iRange, iArg, ePeek, tPeek, eOwnM, tYes_ok, bind_ok, bind_exc, bind_stuck, of_some, flatD, SW.gName, List.getD_cons_zero, List.getD_cons_succ, List.set_cons_zero, List.set_cons_succ, List.map_cons, List.map_nil, List.length_cons, List.length_nil, List.cons_append, List.nil_append, List.replicate, Nat.reduceAdd, Nat.reduceSub, addD_int, subD_int, negD_int, repD_int, modD_int, fdivD_int, ltA_int, leA_int, gtA_int, geA_int, eqD_int, neD_int, pow_10_18, pow_10_60, eTm, l_slash, p1, SW.gTup, SW.gCons, SW.gNil, w1, oI, q1, if_true, f1, oN, isNon_int, oR, decide_eq_false hd, Bool.false_eq_true, if_false, nn, Bool.not_true, Option.bind_some]
          · have d0 : numT l = none := by unfold numT; rw [e]; dsimp only; rw [ew, ef]; dsimp only; rw [if_neg (fun h => hg h.2)]
            rw [decide_eq_false hg] at nn
            rw [d0]
            simp (disch := first | assumption | decide | omega) only [m_number_in, b_number_in, runF, m0, sSeq, sSet, sIf, sRet, sRetN, sExpr, sSkip_ok, sSetA, sSetIx, sFor, sPar, sBind, sAug, eVar, eCon_ok, eOp2, eOp1, eCall, eCallM, eCallT, eTup, eLst, eArg, eIf, tVal, tNotF, tAndF, tOrF, eB, eAndF, eOrF, eNotF, eIxA, eIxO, eCatO, ixA_lst, ixA_tup, ixA_scr, eDNew, eDGet, eDGetO, eDPop, eSortK, eMM, aHoleQ, aHole, aNil_ok, aCons, oNone_ok, oSome, eSlice, eSliceL, iSeqA, iSeq, iRange, iArg, ePeek, tPeek, eOwnM, tYes_ok, bind_ok, bind_exc, bind_stuck, of_some, flatD, SW.gName, List.getD_cons_zero, List.getD_cons_succ, List.set_cons_zero, List.set_cons_succ, List.map_cons, List.map_nil, List.length_cons, List.length_nil, List.cons_append, List.nil_append, List.replicate, Nat.reduceAdd, Nat.reduceSub, addD_int, subD_int, negD_int, repD_int, modD_int, fdivD_int, ltA_int, leA_int, gtA_int, geA_int, eqD_int, neD_int, pow_10_18, pow_10_60, eTm, l_slash, p1, SW.gTup, SW.gCons, SW.gNil, w1, oI, q1, if_true, f1, oN, isNon_int, oR, decide_eq_false hd, Bool.false_eq_true, if_false, nn, Bool.not_false, Option.bind_some]
/-- the way, the word of ways -/
def wayT (c : Nat) (l : Tx) : Option Nat := match figT l with
  | some n => if n < c then some n else none
  | none => none
theorem way_in_ok (c : Nat) {l : Tx} (ho : OkT l) (hl : l.length ≤ 16000000) : m_way_in [.str (sT l), .int ((c : Nat) : Int)] = .ok (oN (wayT c l), .non) := by
  have f1 := figures_in_ok ho hl
  cases ef : figT l with
  | none =>
    rw [ef] at f1
    have d0 : wayT c l = none := by unfold wayT; rw [ef]
    rw [d0]
    simp (disch := first | assumption | decide | omega) only [m_way_in, b_way_in, runF, m0, sSeq, sSet, sIf, sRet, sRetN, sExpr, sSkip_ok, sSetA, sSetIx, sFor, sPar, sBind, sAug, eVar, eCon_ok, eOp2, eOp1, eCall, eCallM, eCallT, eTup, eLst, eArg, eIf, tVal, tNotF, tAndF, tOrF, eB, eAndF, eOrF, eNotF, eIxA, eIxO, eCatO, ixA_lst, ixA_tup, ixA_scr, eDNew, eDGet, eDGetO, eDPop, eSortK, eMM, aHoleQ, aHole, aNil_ok, aCons, oNone_ok, oSome, eSlice, eSliceL, iSeqA, iSeq, iRange, iArg, ePeek, tPeek, eOwnM, tYes_ok, bind_ok, bind_exc, bind_stuck, of_some, flatD, SW.gName, List.getD_cons_zero, List.getD_cons_succ, List.set_cons_zero, List.set_cons_succ, List.map_cons, List.map_nil, List.length_cons, List.length_nil, List.cons_append, List.nil_append, List.replicate, Nat.reduceAdd, Nat.reduceSub, addD_int, subD_int, negD_int, repD_int, modD_int, fdivD_int, ltA_int, leA_int, gtA_int, geA_int, eqD_int, neD_int, pow_10_18, pow_10_60, f1, oN, isNon_non, if_true]
  | some n =>
    rw [ef] at f1
    by_cases h : n < c
    · have d0 : wayT c l = some n := by unfold wayT; rw [ef]; dsimp only; rw [if_pos h]
      have d1 : ¬ ((c : Nat) : Int) ≤ ((n : Nat) : Int) := by omega
      rw [d0]
      simp (disch := first | assumption | decide | omega) only [m_way_in, b_way_in, runF, m0, sSeq, sSet, sIf, sRet, sRetN, sExpr, sSkip_ok, sSetA, sSetIx, sFor, sPar, sBind, sAug, eVar, eCon_ok, eOp2, eOp1, eCall, eCallM, eCallT, eTup, eLst, eArg, eIf, tVal, tNotF, tAndF, tOrF, eB, eAndF, eOrF, eNotF, eIxA, eIxO, eCatO, ixA_lst, ixA_tup, ixA_scr, eDNew, eDGet, eDGetO, eDPop, eSortK, eMM, aHoleQ, aHole, aNil_ok, aCons, oNone_ok, oSome, eSlice, eSliceL, iSeqA, iSeq, iRange, iArg, ePeek, tPeek, eOwnM, tYes_ok, bind_ok, bind_exc, bind_stuck, of_some, flatD, SW.gName, List.getD_cons_zero, List.getD_cons_succ, List.set_cons_zero, List.set_cons_succ, List.map_cons, List.map_nil, List.length_cons, List.length_nil, List.cons_append, List.nil_append, List.replicate, Nat.reduceAdd, Nat.reduceSub, addD_int, subD_int, negD_int, repD_int, modD_int, fdivD_int, ltA_int, leA_int, gtA_int, geA_int, eqD_int, neD_int, pow_10_18, pow_10_60, f1, oN, isNon_int, decide_eq_false d1, Bool.false_eq_true, if_false]
    · have d0 : wayT c l = none := by unfold wayT; rw [ef]; dsimp only; rw [if_neg h]
      have d1 : ((c : Nat) : Int) ≤ ((n : Nat) : Int) := by omega
      rw [d0]
      simp (disch := first | assumption | decide | omega) only [m_way_in, b_way_in, runF, m0, sSeq, sSet, sIf, sRet, sRetN, sExpr, sSkip_ok, sSetA, sSetIx, sFor, sPar, sBind, sAug, eVar, eCon_ok, eOp2, eOp1, eCall, eCallM, eCallT, eTup, eLst, eArg, eIf, tVal, tNotF, tAndF, tOrF, eB, eAndF, eOrF, eNotF, eIxA, eIxO, eCatO, ixA_lst, ixA_tup, ixA_scr, eDNew, eDGet, eDGetO, eDPop, eSortK, eMM, aHoleQ, aHole, aNil_ok, aCons, oNone_ok, oSome, eSlice, eSliceL, iSeqA, iSeq, iRange, iArg, ePeek, tPeek, eOwnM, tYes_ok, bind_ok, bind_exc, bind_stuck, of_some, flatD, SW.gName, List.getD_cons_zero, List.getD_cons_succ, List.set_cons_zero, List.set_cons_succ, List.map_cons, List.map_nil, List.length_cons, List.length_nil, List.cons_append, List.nil_append, List.replicate, Nat.reduceAdd, Nat.reduceSub, addD_int, subD_int, negD_int, repD_int, modD_int, fdivD_int, ltA_int, leA_int, gtA_int, geA_int, eqD_int, neD_int, pow_10_18, pow_10_60, f1, oN, isNon_int, decide_eq_true d1, Bool.false_eq_true, if_false, if_true]

/-! sums of words: terms, order, bounds -/
abbrev eTerm : Enc (Wd × Rat) := ePair eWord eRat
abbrev eSum : Enc (List (Wd × Rat)) := eLstOf eTerm
theorem sum_en (l : SumT) : eSum.en l = .lst (l.map eTerm.en) := rfl
theorem isi_w (w : Wd) : isiD [eWord.en w, .ty .tuple] = some (.bl true) := rfl
theorem len_w (w : Wd) : lenA [eWord.en w] = some (.int w.length) := by
  show some (D.int ((w.map D.int).length : Nat)) = _
  rw [List.length_map]
theorem items_w (w : Wd) : itemsA (eWord.en w) = some (w.map D.int) := rfl
theorem items_l (l : List D) : itemsA (.lst l) = some l := rfl
theorem isi_t (p : Wd × Rat) : isiD [eTerm.en p, .ty .tuple] = some (.bl true) := rfl
theorem t0 (p : Wd × Rat) : ixA (eTerm.en p) (.int 0) = some (eWord.en p.1) := rfl
theorem t1 (p : Wd × Rat) : ixA (eTerm.en p) (.int 1) = some (eRat.en p.2) := rfl
theorem num_ne {q : Rat} (h : q ≠ 0) : ¬ q.num = 0 := fun z => h (Rat.num_eq_zero.mp z)
def WdOk (c : Nat) (w : Wd) : Prop := w.length ≤ 5 ∧ ∀ x ∈ w, 0 ≤ x ∧ x < (c : Int)
def rkE (w : Wd) : D := .tup [.int (w.length : Nat), eWord.en w]
theorem rank_ok (w : Wd) : m_rank [eWord.en w] = .ok (rkE w, .non) := by
  simp (disch := first | assumption | decide | omega) only [m_rank, b_rank, runF, m0, sSeq, sSet, sIf, sRet, sRetN, sExpr, sSkip_ok, sSetA, sSetIx, sFor, sPar, sBind, sAug, eVar, eCon_ok, eOp2, eOp1, eCall, eCallM, eCallT, eTup, eLst, eArg, eIf, tVal, tNotF, tAndF, tOrF, eB, eAndF, eOrF, eNotF, eIxA, eIxO, eCatO, ixA_lst, ixA_tup, ixA_scr, eDNew, eDGet, eDGetO, eDPop, eSortK, eMM, aHoleQ, aHole, aNil_ok, aCons, oNone_ok, oSome, eSlice, eSliceL, iSeqA, iSeq, iRange, iArg, ePeek, tPeek, eOwnM, tYes_ok, bind_ok, bind_exc, bind_stuck, of_some, flatD, SW.gName, List.getD_cons_zero, List.getD_cons_succ, List.set_cons_zero, List.set_cons_succ, List.map_cons, List.map_nil, List.length_cons, List.length_nil, List.cons_append, List.nil_append, List.replicate, Nat.reduceAdd, Nat.reduceSub, addD_int, subD_int, negD_int, repD_int, modD_int, fdivD_int, ltA_int, leA_int, gtA_int, geA_int, eqD_int, neD_int, pow_10_18, pow_10_60, len_w, rkE]
theorem rkE_py (w : Wd) : (rkE w).py = some (rkKey w) := by
  show (D.pyL [.int (w.length : Nat), eWord.en w]).map PyData.tuple = _
  have : D.pyL [.int (w.length : Nat), eWord.en w] = some [.int (w.length : Nat), eWord.py w] := by
    show (match D.py (.int (w.length : Nat)), D.pyL [eWord.en w] with
      | some p, some ps => some (p :: ps)
      | _, _ => none) = _
    have e2 : D.pyL [eWord.en w] = some [eWord.py w] := pyL_map eWord [w]
    rw [e2]
    rfl
  rw [this]
  rfl
theorem rk_alike (a b : Wd) : PySem.W.alike (rkKey a) (rkKey b) = true := by
  show PySem.W.alike (.tuple [.int (a.length : Nat), .tuple (a.map PyData.int)]) (.tuple [.int (b.length : Nat), .tuple (b.map PyData.int)]) = true
  simp only [PySem.W.alike, PySem.W.alikeAll, alike_ints, Bool.and_true]
theorem rk_depth (a : Wd) : (rkKey a).depth ≤ 2 := by
  show (PyData.tuple [.int (a.length : Nat), eWord.py a]).depth ≤ 2
  simp only [PyData.depth, PyData.depthAll]
  have : (eWord.py a).depth ≤ 1 := eWord.hdp a
  omega
/-! bounds of fractions: the bottom's multiple, the greatest -/
structure Bd (N M : Nat) (r : Rat) : Prop where
  d : r.den ∣ N
  n : r.num.natAbs ≤ M * r.den
theorem bd_zero (N M : Nat) : Bd N M 0 := ⟨⟨N, by simp⟩, by simp⟩
theorem Bd.mono {N M M' : Nat} {r : Rat} (h : Bd N M r) (hm : M ≤ M') : Bd N M' r := ⟨h.d, Nat.le_trans h.n (Nat.mul_le_mul_right _ hm)⟩
theorem bd_of {N M : Nat} {r : Rat} {t : Int} {d : Nat} (hd : d ≠ 0) (e : r = mkRat t d) (h1 : d ∣ N) (h2 : t.natAbs ≤ M * d) : Bd N M r := by
  subst e
  have g0 : 0 < Nat.gcd t.natAbs d := Nat.gcd_pos_of_pos_right _ (by omega)
  refine ⟨?_, ?_⟩
  · rw [mkRat_den' t hd]
    exact Nat.dvd_trans (Nat.div_dvd_of_dvd (Nat.gcd_dvd_right _ _)) h1
  · rw [mkRat_num' t hd, mkRat_den' t hd]
    obtain ⟨a, ha⟩ := Nat.gcd_dvd_left t.natAbs d
    obtain ⟨b, hb⟩ := Nat.gcd_dvd_right t.natAbs d
    have e1 : d / Nat.gcd t.natAbs d = b := Nat.div_eq_of_eq_mul_right g0 hb
    have e2 : (t / ((Nat.gcd t.natAbs d : Nat) : Int)).natAbs = a := by
      rw [Int.natAbs_ediv_of_dvd (Int.ofNat_dvd_left.mpr (Nat.gcd_dvd_left _ _)), Int.natAbs_natCast]
      exact Nat.div_eq_of_eq_mul_right g0 ha
    rw [e1, e2]
    rw [ha] at h2
    have h3 : Nat.gcd t.natAbs d * a ≤ M * (Nat.gcd t.natAbs d * b) := by rw [← hb]; exact h2
    have h4 : Nat.gcd t.natAbs d * a ≤ Nat.gcd t.natAbs d * (M * b) := by rw [Nat.mul_left_comm] at h3; exact h3
    exact Nat.le_of_mul_le_mul_left h4 g0
theorem Bd.add {N M M' : Nat} {a b : Rat} (hN : N ≠ 0) (h1 : Bd N M a) (h2 : Bd N M' b) : Bd N (M + M') (a + b) := by
  obtain ⟨x, hx⟩ := h1.d
  obtain ⟨y, hy⟩ := h2.d
  have ha := den_pos' a
  have hb := den_pos' b
  have e : a + b = mkRat (a.num * x + b.num * y) N := by
    have ea : a = mkRat (a.num * x) N := by
      conv => lhs; rw [← Rat.mkRat_self a]
      rw [hx, Rat.mkRat_eq_iff (by omega) (by rw [← hx]; exact hN)]
      rw [Int.natCast_mul, ← Int.mul_assoc, Int.mul_right_comm]
    have eb : b = mkRat (b.num * y) N := by
      conv => lhs; rw [← Rat.mkRat_self b]
      rw [hy, Rat.mkRat_eq_iff (by omega) (by rw [← hy]; exact hN)]
      rw [Int.natCast_mul, ← Int.mul_assoc, Int.mul_right_comm]
    conv => lhs; rw [ea, eb]
    rw [Rat.mkRat_add_mkRat _ _ hN hN, ← Int.add_mul, Rat.mkRat_mul_right hN]
  refine bd_of hN e (Nat.dvd_refl _) ?_
  refine Nat.le_trans (Int.natAbs_add_le _ _) ?_
  rw [Int.natAbs_mul, Int.natAbs_mul, Int.natAbs_natCast, Int.natAbs_natCast, Nat.add_mul]
  have q1 := Nat.mul_le_mul_right x h1.n
  have q2 := Nat.mul_le_mul_right y h2.n
  rw [Nat.mul_assoc, ← hx] at q1
  rw [Nat.mul_assoc, ← hy] at q2
  omega
theorem Bd.sz {N M k : Nat} {r : Rat} (h : Bd N M r) (hN : N ≠ 0) (h1 : N < 2 ^ k) (h2 : M * N < 2 ^ k) : Sz k r := by
  have hd := Nat.le_of_dvd (by omega) h.d
  exact ⟨Nat.lt_of_le_of_lt (Nat.le_trans h.n (Nat.mul_le_mul_left _ hd)) h2, Nat.lt_of_le_of_lt hd h1⟩

/-! dicts of sums, sorted words, the told sum -/
abbrev dS (l : SumT) : D := .dct (dE eRat.en l)
theorem ixA_E {l : SumT} {w : Wd} {q : Rat} (h : getT l w = some q) : ixA (dS l) (eWord.en w) = some (eRat.en q) := by
  show (keyT (eWord.en w)).bind (valD _) = _
  rw [keyT_word]
  show valD (dE eRat.en l) (wk w) = _
  rw [valD_E, h]
  rfl
theorem inA_E (l : SumT) (w : Wd) : inA (eWord.en w) (dS l) = some (.bl (getT l w).isSome) := by
  unfold inA inDct
  dsimp only
  rw [keyT_word]
  show some (D.bl (valD (dE eRat.en l) (wk w)).isSome) = _
  rw [valD_E, Option.isSome_map]
theorem items_E (l : SumT) : itemsA (dS l) = some ((l.map (·.1)).map eWord.en) := by
  show some ((dE eRat.en l).map fun p => keyB p.1) = _
  rw [keys_E]
theorem len_small {n : Nat} (h : n ≤ 200000) : n < sizeLine := by rw [sizeLine_is]; omega
theorem rk_sortable (ws : List Wd) : keysOk (ws.map rkKey) = true := by
  unfold keysOk
  rw [Bool.and_eq_true, Bool.and_eq_true]
  refine ⟨⟨List.all_eq_true.mpr fun p hp => List.all_eq_true.mpr fun q hq => ?_, Bool.or_eq_true_iff.mpr (.inl (List.all_eq_true.mpr fun p hp => ?_))⟩, List.all_eq_true.mpr fun p hp => ?_⟩
  · obtain ⟨a, _, rfl⟩ := List.mem_map.mp hp
    obtain ⟨b, _, rfl⟩ := List.mem_map.mp hq
    exact rk_alike a b
  · obtain ⟨a, _, rfl⟩ := List.mem_map.mp hp
    rfl
  · obtain ⟨a, _, rfl⟩ := List.mem_map.mp hp
    exact decide_eq_true (Nat.le_trans (rk_depth a) (by decide))
theorem keysOf_rk {m : List D → Out (D × D)} (hm : ∀ w, m [eWord.en w] = .ok (rkE w, .non)) : ∀ ws : List Wd, keysOf m (ws.map eWord.en) = some (ws.map fun w => (rkE w, rkKey w))
  | [] => rfl
  | w :: ws => by
    rw [List.map_cons]
    unfold keysOf
    rw [hm]
    dsimp only
    rw [rkE_py, keysOf_rk hm ws]
    rfl
theorem sortK_rk {m : List D → Out (D × D)} (hm : ∀ w, m [eWord.en w] = .ok (rkE w, .non)) (ws : List Wd) : sortK m (ws.map eWord.en) = some ((ws.mergeSort rkLe).map eWord.en) := by
  unfold sortK
  rw [keysOf_rk hm]
  dsimp only
  have e : (ws.map fun w => (rkE w, rkKey w)).map (·.2) = ws.map rkKey := by rw [List.map_map]; rfl
  rw [e, rk_sortable, if_pos rfl]
  congr 1
  refine (List.map_mergeSort (r := rkLe) (s := PySem.W.dataLe false (keyFn m)) (f := eWord.en) (l := ws) fun a _ b _ => ?_).symm
  have kf : ∀ w, keyFn m (eWord.en w) = rkKey w := fun w => by
    unfold keyFn
    rw [hm]
    dsimp only
    rw [rkE_py]
  show rkLe a b = !PySem.W.dataLt (keyFn m (eWord.en b)) (keyFn m (eWord.en a))
  rw [kf, kf, rkKey_lt]
  rfl
/-- terms added, each within bounds -/
structure Acc (N M k : Nat) (l : SumT) : Prop where
  good : Good l
  bd : ∀ w, Bd N (k * M) (coef l w)
  len : l.length ≤ k
structure Small (N M : Nat) : Prop where
  n0 : N ≠ 0
  n : N < 2 ^ 4000
  m : 100000 * M * N < 2 ^ 4000
theorem Acc.add {N M k : Nat} {l : SumT} {w : Wd} {q : Rat} (hN : N ≠ 0) (h : Acc N M k l) (hq : Bd N M q) : Acc N M (k + 1) (addT l w q) := by
  refine ⟨h.good.add w q, fun v => ?_, Nat.le_trans (add_len _ _ _) (Nat.add_le_add_right h.len 1)⟩
  rw [coef_add h.good]
  have e : (k + 1) * M = k * M + M := by rw [Nat.add_mul, Nat.one_mul]
  rw [e]
  refine Bd.add hN (h.bd v) ?_
  split
  · exact hq
  · exact bd_zero _ _
theorem Acc.sz {N M k : Nat} {l : SumT} (h : Acc N M k l) (s : Small N M) (hk : k ≤ 100000) (w : Wd) : Sz 4000 (coef l w) := (h.bd w).sz s.n0 s.n (Nat.lt_of_le_of_lt (Nat.mul_le_mul_right _ (Nat.mul_le_mul_right _ hk)) s.m)
theorem Small.sz {N M : Nat} (s : Small N M) {q : Rat} (h : Bd N M q) : Sz 4000 q := h.sz s.n0 s.n (Nat.lt_of_le_of_lt (Nat.mul_le_mul_right _ (by omega : M ≤ 100000 * M)) s.m)
def addAll (ts acc : SumT) : SumT := ts.foldl (fun a p => addT a p.1 p.2) acc
theorem Acc.all {N M : Nat} (hN : N ≠ 0) : ∀ {ts : SumT} {k : Nat} {acc : SumT}, Acc N M k acc → (∀ p ∈ ts, Bd N M p.2) → Acc N M (k + ts.length) (addAll ts acc)
  | [], _, _, h, _ => h
  | p :: ts, k, acc, h, hb => by
    have := Acc.all hN (ts := ts) (h.add (w := p.1) hN (hb p List.mem_cons_self)) fun r hr => hb r (List.mem_cons_of_mem _ hr)
    rw [List.length_cons, Nat.add_comm ts.length 1, ← Nat.add_assoc]
    exact this
/-- all words of the first with those of the second behind -/
def joinL (A B : SumT) : SumT := A.flatMap fun p => B.map fun r => (p.1 ++ r.1, p.2 * r.2)
/-! words and sums that texts write -/
def pON : Option Nat → PyData
  | none => .none
  | some n => .int ((n : Nat) : Int)
theorem eqvON (p : Option Nat) : PyData.eqv (pON p) .none = decide (p = none) := by cases p <;> rfl
theorem pyON : ∀ ws : List (Option Nat), D.pyL (ws.map oN) = some (ws.map pON)
  | [] => rfl
  | p :: ws => by
    show (match D.py (oN p), D.pyL (ws.map oN) with
      | some p, some ps => some (p :: ps)
      | _, _ => none) = _
    rw [pyON ws]
    cases p <;> rfl
theorem inA_ON (ws : List (Option Nat)) : inA .non (.lst (ws.map oN)) = some (.bl (decide (none ∈ ws))) := by
  have e1 : inDct .non (.lst (ws.map oN)) = none := rfl
  unfold inA
  rw [e1]
  dsimp only
  unfold inD
  dsimp only
  rw [pyON]
  have e2 : D.py .non = some .none := rfl
  rw [e2]
  dsimp only
  have s1 : SeqAt.shaped PyData.none = true := by decide
  have s2 : SeqAt.shaped (.list (ws.map pON)) = true := by
    have a1 : ∀ ys : List (Option Nat), PyData.canLayAll0 (ys.map pON) = true := fun ys => by
      induction ys with
      | nil => rw [List.map_nil, PyData.canLayAll0]
      | cons y ys ih => rw [List.map_cons, PyData.canLayAll0, ih, Bool.and_true]; cases y <;> simp [pON, PyData.canLay0]
    have a2 : ∀ ys : List (Option Nat), PyData.depthAll (ys.map pON) = 0 := fun ys => by
      induction ys with
      | nil => rw [List.map_nil, PyData.depthAll]
      | cons y ys ih => rw [List.map_cons, PyData.depthAll, ih]; cases y <;> simp [pON, PyData.depth]
    unfold SeqAt.shaped
    rw [show PyData.canLay0 (.list (ws.map pON)) = true by rw [PyData.canLay0]; exact a1 ws, decide_eq_true (by rw [PyData.depth, a2]; omega)]
    rfl
  rw [if_pos ⟨s1, s2⟩]
  congr 2
  rw [List.any_map, Bool.eq_iff_iff, decide_eq_true_iff, List.any_eq_true]
  constructor
  · rintro ⟨p, hp, he⟩
    have he : PyData.eqv (pON p) .none = true := he
    rw [eqvON, decide_eq_true_iff] at he
    rw [← he]
    exact hp
  · intro h
    exact ⟨none, h, rfl⟩
def wordT (c : Nat) (l : Tx) : Option Wd := if l = [101] then some [] else
  if none ∈ (cutT 46 l).map (wayT c) ∨ 5 < ((cutT 46 l).map (wayT c)).length then none else some (((cutT 46 l).map (wayT c)).map fun o => ((o.getD 0 : Nat) : Int))
def oW : Option Wd → D
  | none => .non
  | some w => eWord.en w
theorem lenA_on (ws : List (Option Nat)) : lenA [.lst (ws.map oN)] = some (.int (ws.length : Nat)) := by
  show some (D.int ((ws.map oN).length : Nat)) = _
  rw [List.length_map]
theorem tuple_on {ws : List (Option Nat)} (h : none ∉ ws) : tupleD [.lst (ws.map oN)] = some (eWord.en (ws.map fun o => ((o.getD 0 : Nat) : Int))) := by
  show some (D.tup (ws.map oN)) = some (D.tup ((ws.map fun o => ((o.getD 0 : Nat) : Int)).map D.int))
  rw [List.map_map]
  congr 2
  refine List.map_congr_left fun o ho => ?_
  cases o with
  | none => exact (h ho).elim
  | some n => rfl
theorem okT_cut {l : Tx} (s : Nat) (h : OkT l) : ∀ p ∈ cutT s l, OkT p := by
  have key : ∀ l : Tx, ∀ p ∈ cutT s l, ∀ c ∈ p, c ∈ l := fun l => by
    induction l with
    | nil => intro p hp c hc; rw [show cutT s [] = [[]] from rfl, List.mem_singleton] at hp; subst hp; cases hc
    | cons d r ih =>
      intro p hp c hc
      by_cases e : d = s
      · subst e
        rw [cutT_hit] at hp
        rcases List.mem_cons.mp hp with rfl | hp
        · cases hc
        · exact List.mem_cons_of_mem _ (ih p hp c hc)
      · cases e2 : cutT s r with
        | nil => exact (cutT_ne s r e2).elim
        | cons q qs =>
          rw [cutT_miss e e2] at hp
          rcases List.mem_cons.mp hp with rfl | hp
          · rcases List.mem_cons.mp hc with rfl | hc
            · exact List.mem_cons_self
            · exact List.mem_cons_of_mem _ (ih q (by rw [e2]; exact List.mem_cons_self) c hc)
          · exact List.mem_cons_of_mem _ (ih p (by rw [e2]; exact List.mem_cons_of_mem _ hp) c hc)
  exact fun p hp c hc => h c (key l p hp c hc)
theorem items_ts (xs : List Tx) : itemsA (.lst (xs.map fun p => D.str (sT p))) = some (xs.map fun p => D.str (sT p)) := rfl
/-- a comprehension over a text that is cut -/
theorem ways_comp {m : List D → Out (D × D)} {c : Nat} {l : Tx} (hm : ∀ p ∈ cutT 46 l, m [.str (sT p), .int ((c : Nat) : Int)] = .ok (oN (wayT c p), .non)) (hl : l.length ≤ 16000000) (y2 : Option D) :
    eComp [3] (iSeqA (eTm splitD (eVar 0) (eCon (.str (sT [46]))))) (gName 3) tYesF (eCall m (aCons (eVar 3) (aCons (eVar 1) aNil))) [some (.str (sT l)), some (.int ((c : Nat) : Int)), y2, none] = .ok (.lst (((cutT 46 l).map (wayT c)).map oN), [some (.str (sT l)), some (.int ((c : Nat) : Int)), y2, none]) := by
  have e := compL_of (vs := [3]) (b := gName 3) (tt := tYesF) (fe := (eCall m (aCons (eVar 3) (aCons (eVar 1) aNil)))) (f := fun p : Tx => D.str (sT p)) (ρ := [some (.str (sT l)), some (.int ((c : Nat) : Int)), y2, none]) (c := fun _ => true) (h := fun p => oN (wayT c p)) (cutT 46 l) (by
    intro p hp
    refine ⟨[some (.str (sT l)), some (.int ((c : Nat) : Int)), y2, some (.str (sT p))], rfl, [some (.str (sT l)), some (.int ((c : Nat) : Int)), y2, some (.str (sT p))], rfl, (fun z => by cases z), fun _ => ⟨[some (.str (sT l)), some (.int ((c : Nat) : Int)), y2, some (.str (sT p))], ?_, rfl⟩⟩
    have e1 := hm p hp
    simp (disch := first | assumption | decide | omega) only [runF, m0, sSeq, sSet, sIf, sRet, sRetN, sExpr, sSkip_ok, sSetA, sSetIx, sFor, sPar, sBind, sAug, eVar, eCon_ok, eOp2, eOp1, eCall, eCallM, eCallT, eTup, eLst, eArg, eIf, tVal, tNotF, tAndF, tOrF, eB, eAndF, eOrF, eNotF, eIxA, eIxO, eCatO, ixA_lst, ixA_tup, ixA_scr, eDNew, eDGet, eDGetO, eDPop, eSortK, eMM, aHoleQ, aHole, aNil_ok, aCons, oNone_ok, oSome, eSlice, eSliceL, iSeqA, iSeq, iRange, iArg, ePeek, tPeek, eOwnM, tYes_ok, bind_ok, bind_exc, bind_stuck, of_some, flatD, SW.gName, List.getD_cons_zero, List.getD_cons_succ, List.set_cons_zero, List.set_cons_succ, List.map_cons, List.map_nil, List.length_cons, List.length_nil, List.cons_append, List.nil_append, List.replicate, Nat.reduceAdd, Nat.reduceSub, addD_int, subD_int, negD_int, repD_int, modD_int, fdivD_int, ltA_int, leA_int, gtA_int, geA_int, eqD_int, neD_int, pow_10_18, pow_10_60, e1])
  rw [List.filter_eq_self.mpr fun a _ => rfl] at e
  have s1 := splitOkT (s := 46) (by decide) hl
  rw [List.map_map]
  simp (disch := first | assumption | decide | omega) only [runF, m0, sSeq, sSet, sIf, sRet, sRetN, sExpr, sSkip_ok, sSetA, sSetIx, sFor, sPar, sBind, sAug, eVar, eCon_ok, eOp2, eOp1, eCall, eCallM, eCallT, eTup, eLst, eArg, eIf, tVal, tNotF, tAndF, tOrF, eB, eAndF, eOrF, eNotF, eIxA, eIxO, eCatO, ixA_lst, ixA_tup, ixA_scr, eDNew, eDGet, eDGetO, eDPop, eSortK, eMM, aHoleQ, aHole, aNil_ok, aCons, oNone_ok, oSome, eSlice, eSliceL, iSeqA, iSeq, iRange, iArg, ePeek, tPeek, eOwnM, tYes_ok, bind_ok, bind_exc, bind_stuck, of_some, flatD, SW.gName, List.getD_cons_zero, List.getD_cons_succ, List.set_cons_zero, List.set_cons_succ, List.map_cons, List.map_nil, List.length_cons, List.length_nil, List.cons_append, List.nil_append, List.replicate, Nat.reduceAdd, Nat.reduceSub, addD_int, subD_int, negD_int, repD_int, modD_int, fdivD_int, ltA_int, leA_int, gtA_int, geA_int, eqD_int, neD_int, pow_10_18, pow_10_60, eComp, eTm, s1, items_ts, e]
  rfl
theorem word_in_ok (c : Nat) {l : Tx} (ho : OkT l) (hl : l.length ≤ 16000000) : m_word_in [.str (sT l), .int ((c : Nat) : Int)] = .ok (oW (wordT c l), .non) := by
  have q1 := eqT ho (ok_lit (l := [101]) rfl)
  by_cases h : l = [101]
  · have d0 : wordT c l = some [] := by unfold wordT; rw [if_pos h]
    have en : eWord.en [] = .tup [] := rfl
    rw [d0]
    simp (disch := first | assumption | decide | omega) only [m_word_in, b_word_in, runF, m0, sSeq, sSet, sIf, sRet, sRetN, sExpr, sSkip_ok, sSetA, sSetIx, sFor, sPar, sBind, sAug, eVar, eCon_ok, eOp2, eOp1, eCall, eCallM, eCallT, eTup, eLst, eArg, eIf, tVal, tNotF, tAndF, tOrF, eB, eAndF, eOrF, eNotF, eIxA, eIxO, eCatO, ixA_lst, ixA_tup, ixA_scr, eDNew, eDGet, eDGetO, eDPop, eSortK, eMM, aHoleQ, aHole, aNil_ok, aCons, oNone_ok, oSome, eSlice, eSliceL, iSeqA, iSeq, iRange, iArg, ePeek, tPeek, eOwnM, tYes_ok, bind_ok, bind_exc, bind_stuck, of_some, flatD, SW.gName, List.getD_cons_zero, List.getD_cons_succ, List.set_cons_zero, List.set_cons_succ, List.map_cons, List.map_nil, List.length_cons, List.length_nil, List.cons_append, List.nil_append, List.replicate, Nat.reduceAdd, Nat.reduceSub, addD_int, subD_int, negD_int, repD_int, modD_int, fdivD_int, ltA_int, leA_int, gtA_int, geA_int, eqD_int, neD_int, pow_10_18, pow_10_60, l_e, q1, decide_eq_true h, if_true, oW, en]
  · have hc := ways_comp (m := m_way_in) (c := c) (fun p hp => way_in_ok c (okT_cut 46 ho p hp) (Nat.le_trans (cutT_part 46 l p hp) hl)) hl none
    have km : k_MOST_WAYS = .int 5 := rfl
    have q2 := inA_ON ((cutT 46 l).map (wayT c))
    have q3 := lenA_on ((cutT 46 l).map (wayT c))
    by_cases hn : none ∈ (cutT 46 l).map (wayT c)
    · have d0 : wordT c l = none := by unfold wordT; rw [if_neg h, if_pos (.inl hn)]
      rw [d0]
      simp (disch := first | assumption | decide | omega) only [m_word_in, b_word_in, runF, m0, sSeq, sSet, sIf, sRet, sRetN, sExpr, sSkip_ok, sSetA, sSetIx, sFor, sPar, sBind, sAug, eVar, eCon_ok, eOp2, eOp1, eCall, eCallM, eCallT, eTup, eLst, eArg, eIf, tVal, tNotF, tAndF, tOrF, eB, eAndF, eOrF, eNotF, eIxA, eIxO, eCatO, ixA_lst, ixA_tup, ixA_scr, eDNew, eDGet, eDGetO, eDPop, eSortK, eMM, aHoleQ, aHole, aNil_ok, aCons, oNone_ok, oSome, eSlice, eSliceL, iSeqA, iSeq, iRange, iArg, ePeek, tPeek, eOwnM, tYes_ok, bind_ok, bind_exc, bind_stuck, of_some, flatD, SW.gName, List.getD_cons_zero, List.getD_cons_succ, List.set_cons_zero, List.set_cons_succ, List.map_cons, List.map_nil, List.length_cons, List.length_nil, List.cons_append, List.nil_append, List.replicate, Nat.reduceAdd, Nat.reduceSub, addD_int, subD_int, negD_int, repD_int, modD_int, fdivD_int, ltA_int, leA_int, gtA_int, geA_int, eqD_int, neD_int, pow_10_18, pow_10_60, l_e, l_dot, q1, decide_eq_false h, Bool.false_eq_true, if_false, hc, q2, decide_eq_true hn, if_true, oW]
    · have q4 := tuple_on hn
      generalize hN : ((((cutT 46 l).map (wayT c)).length : Nat) : Int) = N at q3
      by_cases h5 : 5 < N
      · have d0 : wordT c l = none := by unfold wordT; rw [if_neg h, if_pos (.inr (by omega))]
        rw [d0]
        simp (disch := first | assumption | decide | omega) only [m_word_in, b_word_in, runF, m0, sSeq, sSet, sIf, sRet, sRetN, sExpr, sSkip_ok, sSetA, sSetIx, sFor, sPar, sBind, sAug, eVar, eCon_ok, eOp2, eOp1, eCall, eCallM, eCallT, eTup, eLst, eArg, eIf, tVal, tNotF, tAndF, tOrF, eB, eAndF, eOrF, eNotF, eIxA, eIxO, eCatO, ixA_lst, ixA_tup, ixA_scr, eDNew, eDGet, eDGetO, eDPop, eSortK, eMM, aHoleQ, aHole, aNil_ok, aCons, oNone_ok, oSome, eSlice, eSliceL, iSeqA, iSeq, iRange, iArg, ePeek, tPeek, eOwnM, tYes_ok, bind_ok, bind_exc, bind_stuck, of_some, flatD, SW.gName, List.getD_cons_zero, List.getD_cons_succ, List.set_cons_zero, List.set_cons_succ, List.map_cons, List.map_nil, List.length_cons, List.length_nil, List.cons_append, List.nil_append, List.replicate, Nat.reduceAdd, Nat.reduceSub, addD_int, subD_int, negD_int, repD_int, modD_int, fdivD_int, ltA_int, leA_int, gtA_int, geA_int, eqD_int, neD_int, pow_10_18, pow_10_60, l_e, l_dot, km, q1, decide_eq_false h, Bool.false_eq_true, if_false, hc, q2, decide_eq_false hn, q3, decide_eq_true h5, if_true, oW]
      · have d0 : wordT c l = some (((cutT 46 l).map (wayT c)).map fun o => ((o.getD 0 : Nat) : Int)) := by unfold wordT; rw [if_neg h, if_neg (fun z => z.elim hn (by omega))]
        rw [d0]
        simp (disch := first | assumption | decide | omega) only [m_word_in, b_word_in, runF, m0, sSeq, sSet, sIf, sRet, sRetN, sExpr, sSkip_ok, sSetA, sSetIx, sFor, sPar, sBind, sAug, eVar, eCon_ok, eOp2, eOp1, eCall, eCallM, eCallT, eTup, eLst, eArg, eIf, tVal, tNotF, tAndF, tOrF, eB, eAndF, eOrF, eNotF, eIxA, eIxO, eCatO, ixA_lst, ixA_tup, ixA_scr, eDNew, eDGet, eDGetO, eDPop, eSortK, eMM, aHoleQ, aHole, aNil_ok, aCons, oNone_ok, oSome, eSlice, eSliceL, iSeqA, iSeq, iRange, iArg, ePeek, tPeek, eOwnM, tYes_ok, bind_ok, bind_exc, bind_stuck, of_some, flatD, SW.gName, List.getD_cons_zero, List.getD_cons_succ, List.set_cons_zero, List.set_cons_succ, List.map_cons, List.map_nil, List.length_cons, List.length_nil, List.cons_append, List.nil_append, List.replicate, Nat.reduceAdd, Nat.reduceSub, addD_int, subD_int, negD_int, repD_int, modD_int, fdivD_int, ltA_int, leA_int, gtA_int, geA_int, eqD_int, neD_int, pow_10_18, pow_10_60, l_e, l_dot, km, q1, decide_eq_false h, Bool.false_eq_true, if_false, hc, q2, decide_eq_false hn, q3, decide_eq_false h5, oW, q4]
def termT (c : Nat) (l : Tx) : Option (Wd × Rat) := match partT 58 l with
  | none => none
  | some (a, b) => match numT a, wordT c b with
    | some q, some w => if q = 0 then none else some (w, q)
    | _, _ => none
def readL (c : Nat) : List Tx → Nat → SumT → Sum Nat SumT
  | [], _, acc => .inr acc
  | t :: ts, i, acc => match termT c t with
    | some p => if (getT acc p.1).isSome = true then .inl i else readL c ts (i + 1) (setT acc p.1 p.2)
    | none => .inl i
def enF : Nat → List Tx → List D
  | _, [] => []
  | i, t :: ts => .tup [.int ((i : Nat) : Int), .str (sT t)] :: enF (i + 1) ts
theorem enF_range : ∀ (ts : List Tx) (n : Nat), enF n ts = ((List.range ts.length).map (· + n)).zipWith (fun (i : Nat) d => D.tup [.int ((i : Nat) : Int), d]) (ts.map fun p => D.str (sT p))
  | [], _ => rfl
  | t :: ts, n => by
    rw [enF, enF_range ts (n + 1), List.length_cons, List.range_succ_eq_map, List.map_cons, List.map_map, List.map_cons, List.zipWith_cons_cons]
    have e1 : (fun x => x + (n + 1)) = ((fun x => x + n) ∘ Nat.succ) := by
      funext i
      simp only [Function.comp, Nat.succ_eq_add_one]
      omega
    have e2 : 0 + n = n := by omega
    rw [e1, e2]
theorem enum_ts (ts : List Tx) : iEnum1 [.lst (ts.map fun p => D.str (sT p))] = some (enF 0 ts) := by
  show some (enumD (ts.map fun p => D.str (sT p))) = _
  unfold enumD
  rw [enF_range, List.length_map]
  congr 2
  simp
theorem num0 (q : Rat) : ixA (eRat.en q) (.int 0) = some (.int q.num) := rfl
theorem isNon_rat (q : Rat) : isNon (eRat.en q) .non = some (.bl false) := rfl
theorem isNon_wd (w : Wd) : isNon (eWord.en w) .non = some (.bl false) := rfl
theorem termT_some {c : Nat} {l : Tx} {p : Wd × Rat} (h : termT c l = some p) : ∃ a b, partT 58 l = some (a, b) ∧ numT a = some p.2 ∧ wordT c b = some p.1 ∧ p.2 ≠ 0 := by
  unfold termT at h
  cases e : partT 58 l with
  | none => rw [e] at h; cases h
  | some ab =>
    obtain ⟨a, b⟩ := ab
    rw [e] at h
    dsimp only at h
    cases e1 : numT a with
    | none => rw [e1] at h; cases h
    | some q =>
      cases e2 : wordT c b with
      | none => rw [e1, e2] at h; cases h
      | some w =>
        rw [e1, e2] at h
        dsimp only at h
        split at h
        · cases h
        · rename_i hq
          cases h
          exact ⟨a, b, rfl, e1, e2, hq⟩
theorem set_len' (l : SumT) (w : Wd) (q : Rat) : (setT l w q).length ≤ l.length + 1 := by
  unfold setT
  split
  · rw [List.length_map]; omega
  · rw [List.length_append]; simp
theorem good_set' {l : SumT} {w : Wd} {q : Rat} (g : Good l) (hn : (getT l w).isSome = false) (hq : q ≠ 0) : Good (setT l w q) := by
  have e : setT l w q = l ++ [(w, q)] := by unfold setT; rw [if_neg (by rw [hn]; decide)]
  have hw : w ∉ l.map (·.1) := by
    cases hg : getT l w with
    | none => exact getT_none.mp hg
    | some y => rw [hg] at hn; cases hn
  rw [e]
  refine ⟨?_, fun p hp => ?_⟩
  · rw [List.map_append]
    refine List.nodup_append.mpr ⟨g.nd, by simp, fun a ha b hb => ?_⟩
    rw [List.map_cons, List.map_nil, List.mem_singleton] at hb
    subst hb
    exact fun z => hw (z ▸ ha)
  · rcases List.mem_append.mp hp with hp | hp
    · exact g.nz p hp
    · rw [List.mem_singleton] at hp; subst hp; exact hq
theorem read_good (c : Nat) : ∀ (ts : List Tx) (i : Nat) (acc out : SumT), Good acc → readL c ts i acc = .inr out → Good out
  | [], _, acc, out, g, h => by cases h; exact g
  | t :: ts, i, acc, out, g, h => by
    unfold readL at h
    cases e : termT c t with
    | none => rw [e] at h; cases h
    | some p =>
      rw [e] at h
      dsimp only at h
      cases hs : (getT acc p.1).isSome with
      | true => rw [hs, if_pos rfl] at h; cases h
      | false =>
        rw [hs, if_neg (by decide)] at h
        obtain ⟨_, _, _, _, _, hq⟩ := termT_some e
        exact read_good c ts (i + 1) _ out (good_set' g hs hq) h
/-- the loop of the program, where it answers -/
theorem read_loop_ok (c : Nat) (X : D) : ∀ (ts : List Tx) (i : Nat) (acc out : SumT), (∀ t ∈ ts, OkT t ∧ t.length ≤ 16000000) → acc.length + ts.length ≤ 16000000 → readL c ts i acc = .inr out →
    ∀ y3 y4 y5 y6 y7 y8 y9, ∃ z3 z4 z5 z6 z7 z8 z9, forL (gTup 2 (gCons (gName 3) (gCons (gName 4) gNil))) ((sSeq (sBind (gTup 3 (gCons (gName 7) (gCons (gName 8) (gCons (gName 9) gNil)))) (eTm partD (eVar 4) (eCon (.str ":")))) (sSeq (sSet 5 (eCall m_number_in (aCons (eVar 7) aNil))) (sSeq (sSet 6 (eCall m_word_in (aCons (eVar 9) (aCons (eVar 1) aNil)))) (sSeq (sIf (tPeek (tOrF (tVal (eOp2 eqD (eVar 8) (eCon (.str "")))) (tOrF (tVal (eOp2 isNon (eVar 5) (eCon .non))) (tOrF (tVal (eOp2 eqD (eOp2 ixA (eVar 5) (eCon (.int 0))) (eCon (.int 0)))) (tOrF (tVal (eOp2 isNon (eVar 6) (eCon .non))) (tVal (eOp2 inA (eVar 6) (eVar 2)))))))) sStuck sSkip) (sSetA 2 (eVar 5) (eVar 6))))))) (enF i ts) [some X, some (.int ((c : Nat) : Int)), some (dS acc), y3, y4, y5, y6, y7, y8, y9] = .ok (.nx [some X, some (.int ((c : Nat) : Int)), some (dS out), z3, z4, z5, z6, z7, z8, z9])
  | [], i, acc, out, _, _, h, y3, y4, y5, y6, y7, y8, y9 => by cases h; exact ⟨y3, y4, y5, y6, y7, y8, y9, rfl⟩
  | t :: ts, i, acc, out, ho, hl, h, y3, y4, y5, y6, y7, y8, y9 => by
    unfold readL at h
    cases e : termT c t with
    | none => rw [e] at h; cases h
    | some p =>
      rw [e] at h
      dsimp only at h
      cases hs : (getT acc p.1).isSome with
      | true => rw [hs, if_pos rfl] at h; cases h
      | false =>
        rw [hs, if_neg (by decide)] at h
        obtain ⟨a, b, e1, e2, e3, hq⟩ := termT_some e
        obtain ⟨o1, o2⟩ := ho t List.mem_cons_self
        obtain ⟨oa, ob⟩ := okT_part o1 e1
        obtain ⟨la, lb⟩ := len_part e1
        rw [List.length_cons] at hl
        have hsl := set_len' acc p.1 p.2
        obtain ⟨z3, z4, z5, z6, z7, z8, z9, ih⟩ := read_loop_ok c X ts (i + 1) _ out (fun x hx => ho x (List.mem_cons_of_mem _ hx)) (by omega) h (some (.int ((i : Nat) : Int))) (some (.str (sT t))) (some (eRat.en p.2)) (some (eWord.en p.1)) (some (.str (sT a))) (some (.str (sT [58]))) (some (.str (sT b)))
        refine ⟨z3, z4, z5, z6, z7, z8, z9, ?_⟩
        have p1 := partOkT 58 o2
        rw [e1] at p1
        have n1 := number_in_ok oa (by omega)
        rw [e2] at n1
        have w1 := word_in_ok c ob (by omega)
        rw [e3] at w1
        have q1 := eqT (ok_lit (l := [58]) rfl) (ok_lit (l := []) rfl)
        have q0 : ¬ ([58] : Tx) = [] := by simp
        rw [decide_eq_false q0] at q1
        have d0 : ¬ p.2.num = 0 := num_ne hq
        have i1 := inA_E acc p.1
        rw [hs] at i1
        have hz : (dE eRat.en acc).length < sizeLine := by rw [dE_len, sizeLine_is]; omega
        rw [enF]
        unfold forL
        simp (disch := first | assumption | decide | omega) only [runF, m0, sSeq, sSet, sIf, sRet, sRetN, sExpr, sSkip_ok, sSetA, sSetIx, sFor, sPar, sBind, sAug, eVar, eCon_ok, eOp2, eOp1, eCall, eCallM, eCallT, eTup, eLst, eArg, eIf, tVal, tNotF, tAndF, tOrF, eB, eAndF, eOrF, eNotF, eIxA, eIxO, eCatO, ixA_lst, ixA_tup, ixA_scr, eDNew, eDGet, eDGetO, eDPop, eSortK, eMM, aHoleQ, aHole, aNil_ok, aCons, oNone_ok, oSome, eSlice, eSliceL, iSeqA, iSeq, iRange, iArg, ePeek, tPeek, eOwnM, tYes_ok, bind_ok, bind_exc, bind_stuck, of_some, flatD, SW.gName, List.getD_cons_zero, List.getD_cons_succ, List.set_cons_zero, List.set_cons_succ, List.map_cons, List.map_nil, List.length_cons, List.length_nil, List.cons_append, List.nil_append, List.replicate, Nat.reduceAdd, Nat.reduceSub, addD_int, subD_int, negD_int, repD_int, modD_int, fdivD_int, ltA_int, leA_int, gtA_int, geA_int, eqD_int, neD_int, pow_10_18, pow_10_60, SW.gTup, SW.gCons, SW.gNil, eTm, l_colon, l_empty, p1, n1, w1, oR, oW, q1, isNon_rat, isNon_wd, num0, decide_eq_false d0, i1, Bool.false_eq_true, if_false, if_true, keyT_word, Option.bind_some, hz, putD_E, decide_true]
        exact ih
theorem tok_wds (ws : List Wd) : tokL (ws.map eWord.en) = true := by
  have h1 : ∀ w : Wd, tokL (w.map D.int) = true := fun w => by
    induction w with
    | nil => rfl
    | cons i w ih => show (tokD (.int i) && tokL (w.map D.int)) = true; rw [ih]; rfl
  induction ws with
  | nil => rfl
  | cons w ws ih =>
    show (tokL (w.map D.int) && tokL (ws.map eWord.en)) = true
    rw [ih, h1]
    rfl
theorem told_read {l : SumT} (g : Good l) (X Y : D) (z3 z4 z5 z6 z7 z8 z9 : Option D) : eComp [6] (iSeqA (ePeekL (eSortK m_rank (eVar 2)))) (gName 6) tYesF (eTup (aCons (eVar 6) (aCons (eIxA 2 (eVar 6)) aNil))) [some X, some Y, some (dS l), z3, z4, z5, z6, z7, z8, z9] = .ok (eSum.en (toldT l), [some X, some Y, some (dS l), z3, z4, z5, z6, z7, z8, z9]) := by
  have e := compL_of (vs := [6]) (b := gName 6) (tt := tYesF) (fe := (eTup (aCons (eVar 6) (aCons (eIxA 2 (eVar 6)) aNil)))) (f := eWord.en) (ρ := [some X, some Y, some (dS l), z3, z4, z5, z6, z7, z8, z9]) (c := fun _ => true) (h := fun w => eTerm.en (w, coef l w)) ((l.map (·.1)).mergeSort rkLe) (by
    intro w hw
    have hw := (List.mergeSort_perm _ _).mem_iff.mp hw
    obtain ⟨p, hp, rfl⟩ := List.mem_map.mp hw
    have h1 := getT_of_mem g.nd (q := p.2) hp
    have h2 : coef l p.1 = p.2 := by unfold coef; rw [h1]; rfl
    have v1 : valD (dE eRat.en l) (wk p.1) = some (eRat.en p.2) := by rw [valD_E, h1]; rfl
    refine ⟨[some X, some Y, some (dS l), z3, z4, z5, some (eWord.en p.1), z7, z8, z9], rfl, [some X, some Y, some (dS l), z3, z4, z5, some (eWord.en p.1), z7, z8, z9], rfl, (fun z => by cases z), fun _ => ⟨[some X, some Y, some (dS l), z3, z4, z5, some (eWord.en p.1), z7, z8, z9], ?_, rfl⟩⟩
    rw [h2]
    simp (disch := first | assumption | decide | omega) only [runF, m0, sSeq, sSet, sIf, sRet, sRetN, sExpr, sSkip_ok, sSetA, sSetIx, sFor, sPar, sBind, sAug, eVar, eCon_ok, eOp2, eOp1, eCall, eCallM, eCallT, eTup, eLst, eArg, eIf, tVal, tNotF, tAndF, tOrF, eB, eAndF, eOrF, eNotF, eIxA, eIxO, eCatO, ixA_lst, ixA_tup, ixA_scr, eDNew, eDGet, eDGetO, eDPop, eSortK, eMM, aHoleQ, aHole, aNil_ok, aCons, oNone_ok, oSome, eSlice, eSliceL, iSeqA, iSeq, iRange, iArg, ePeek, tPeek, eOwnM, tYes_ok, bind_ok, bind_exc, bind_stuck, of_some, flatD, SW.gName, List.getD_cons_zero, List.getD_cons_succ, List.set_cons_zero, List.set_cons_succ, List.map_cons, List.map_nil, List.length_cons, List.length_nil, List.cons_append, List.nil_append, List.replicate, Nat.reduceAdd, Nat.reduceSub, addD_int, subD_int, negD_int, repD_int, modD_int, fdivD_int, ltA_int, leA_int, gtA_int, geA_int, eqD_int, neD_int, pow_10_18, pow_10_60, keyT_word, Option.bind_some, v1]
    rfl)
  rw [List.filter_eq_self.mpr fun a _ => rfl] at e
  have s := sortK_rk rank_ok (l.map (·.1))
  have en : eSum.en (toldT l) = .lst (((l.map (·.1)).mergeSort rkLe).map fun w => eTerm.en (w, coef l w)) := by
    show D.lst ((toldT l).map eTerm.en) = _
    unfold toldT
    rw [List.map_map]
    rfl
  have tk := tok_wds ((l.map (·.1)).mergeSort rkLe)
  rw [en]
  simp (disch := first | assumption | decide | omega) only [runF, m0, sSeq, sSet, sIf, sRet, sRetN, sExpr, sSkip_ok, sSetA, sSetIx, sFor, sPar, sBind, sAug, eVar, eCon_ok, eOp2, eOp1, eCall, eCallM, eCallT, eTup, eLst, eArg, eIf, tVal, tNotF, tAndF, tOrF, eB, eAndF, eOrF, eNotF, eIxA, eIxO, eCatO, ixA_lst, ixA_tup, ixA_scr, eDNew, eDGet, eDGetO, eDPop, eSortK, eMM, aHoleQ, aHole, aNil_ok, aCons, oNone_ok, oSome, eSlice, eSliceL, iSeqA, iSeq, iRange, iArg, ePeek, tPeek, eOwnM, tYes_ok, bind_ok, bind_exc, bind_stuck, of_some, flatD, SW.gName, List.getD_cons_zero, List.getD_cons_succ, List.set_cons_zero, List.set_cons_succ, List.map_cons, List.map_nil, List.length_cons, List.length_nil, List.cons_append, List.nil_append, List.replicate, Nat.reduceAdd, Nat.reduceSub, addD_int, subD_int, negD_int, repD_int, modD_int, fdivD_int, ltA_int, leA_int, gtA_int, geA_int, eqD_int, neD_int, pow_10_18, pow_10_60, items_E, ePeekL, Option.bind_some, s, items_l, eComp, tk, if_true, e]
theorem read_sum_ok {c : Nat} {l : Tx} (ho : OkT l) (hl : l.length ≤ 8000000) {out : SumT} (h0 : l ≠ [48]) (h : readL c (cutT 32 l) 0 [] = .inr out) : m_read_sum [.str (sT l), .int ((c : Nat) : Int)] = .ok (eSum.en (toldT out), .non) := by
  have q1 := eqT ho (ok_lit (l := [48]) rfl)
  have s1 := splitOkT (s := 32) (by decide) (l := l) (by omega)
  have e1 := enum_ts (cutT 32 l)
  have cl := cutT_len 32 l
  obtain ⟨z3, z4, z5, z6, z7, z8, z9, lp⟩ := read_loop_ok c (.str (sT l)) (cutT 32 l) 0 [] out (fun t ht => ⟨okT_cut 32 ho t ht, by have := cutT_part 32 l t ht; omega⟩) (by rw [List.length_nil]; omega) h none none none none none none none
  have td := told_read (read_good c _ _ _ out good_nil h) (.str (sT l)) (.int ((c : Nat) : Int)) z3 z4 z5 z6 z7 z8 z9
  have en : D.dct [] = dS [] := rfl
  simp (disch := first | assumption | decide | omega) only [m_read_sum, b_read_sum, runF, m0, sSeq, sSet, sIf, sRet, sRetN, sExpr, sSkip_ok, sSetA, sSetIx, sFor, sPar, sBind, sAug, eVar, eCon_ok, eOp2, eOp1, eCall, eCallM, eCallT, eTup, eLst, eArg, eIf, tVal, tNotF, tAndF, tOrF, eB, eAndF, eOrF, eNotF, eIxA, eIxO, eCatO, ixA_lst, ixA_tup, ixA_scr, eDNew, eDGet, eDGetO, eDPop, eSortK, eMM, aHoleQ, aHole, aNil_ok, aCons, oNone_ok, oSome, eSlice, eSliceL, iSeqA, iSeq, iRange, iArg, ePeek, tPeek, eOwnM, tYes_ok, bind_ok, bind_exc, bind_stuck, of_some, flatD, SW.gName, List.getD_cons_zero, List.getD_cons_succ, List.set_cons_zero, List.set_cons_succ, List.map_cons, List.map_nil, List.length_cons, List.length_nil, List.cons_append, List.nil_append, List.replicate, Nat.reduceAdd, Nat.reduceSub, addD_int, subD_int, negD_int, repD_int, modD_int, fdivD_int, ltA_int, leA_int, gtA_int, geA_int, eqD_int, neD_int, pow_10_18, pow_10_60, l_zero, l_blank, q1, decide_eq_false h0, Bool.false_eq_true, if_false, eTm, s1, e1, en, lp, td]
theorem read_none (c : Nat) : m_read_sum [.str (sT [48]), .int ((c : Nat) : Int)] = .ok (eSum.en [], .non) := by
  have q1 := eqT (ok_lit (l := [48]) rfl) (ok_lit (l := [48]) rfl)
  have en : eSum.en [] = .lst [] := rfl
  rw [decide_eq_true rfl] at q1
  simp (disch := first | assumption | decide | omega) only [m_read_sum, b_read_sum, runF, m0, sSeq, sSet, sIf, sRet, sRetN, sExpr, sSkip_ok, sSetA, sSetIx, sFor, sPar, sBind, sAug, eVar, eCon_ok, eOp2, eOp1, eCall, eCallM, eCallT, eTup, eLst, eArg, eIf, tVal, tNotF, tAndF, tOrF, eB, eAndF, eOrF, eNotF, eIxA, eIxO, eCatO, ixA_lst, ixA_tup, ixA_scr, eDNew, eDGet, eDGetO, eDPop, eSortK, eMM, aHoleQ, aHole, aNil_ok, aCons, oNone_ok, oSome, eSlice, eSliceL, iSeqA, iSeq, iRange, iArg, ePeek, tPeek, eOwnM, tYes_ok, bind_ok, bind_exc, bind_stuck, of_some, flatD, SW.gName, List.getD_cons_zero, List.getD_cons_succ, List.set_cons_zero, List.set_cons_succ, List.map_cons, List.map_nil, List.length_cons, List.length_nil, List.cons_append, List.nil_append, List.replicate, Nat.reduceAdd, Nat.reduceSub, addD_int, subD_int, negD_int, repD_int, modD_int, fdivD_int, ltA_int, leA_int, gtA_int, geA_int, eqD_int, neD_int, pow_10_18, pow_10_60, l_zero, q1, if_true, en]

/-! texts of numbers, words and sums -/
def intTx (i : Int) : Tx := tl (Str.ofString (toString i))
theorem intTx_sT (i : Int) : Str.ofString (toString i) = sT (intTx i) := (sT_tl _).symm
theorem intTx_nat (n : Nat) : intTx ((n : Nat) : Int) = TL.numL n := TL.tl_num n
theorem intTx_neg (n : Nat) : intTx (Int.negSucc n) = 45 :: TL.numL (n + 1) := by
  unfold intTx
  have e : toString (Int.negSucc n) = "-" ++ toString (((n + 1 : Nat) : Nat) : Int) := rfl
  rw [e, TL.tl_ofString, String.toList_append, List.map_append]
  have e2 : (toString (((n + 1 : Nat) : Nat) : Int)).toList.map Char.toNat = TL.numL (n + 1) := by rw [← TL.tl_ofString, TL.tl_num]
  rw [e2]
  rfl
theorem strI_ok {i : Int} (h : i.natAbs.log2 < 1920) : strI [.int i] = some (.str (sT (intTx i))) := by
  show (if i.natAbs.log2 < 1920 then some (D.str (Str.ofString (toString i))) else none) = _
  rw [if_pos h, intTx_sT]
theorem log_lt {i : Int} {k : Nat} (hk : k ≤ 570) (h : i.natAbs < 10 ^ k) : i.natAbs.log2 < 1920 := by
  by_cases h0 : i.natAbs = 0
  · rw [h0]; decide
  · refine (Nat.log2_lt h0).mpr (Nat.lt_of_lt_of_le h ?_)
    refine Nat.le_trans (Nat.pow_le_pow_right (by decide) hk) ?_
    decide +kernel
theorem numL_figs (n : Nat) : ∀ c ∈ TL.numL n, c ∈ figs := fun c hc => (fig_mem c).mpr (TL.numL_digits n c hc)
theorem intTx_mem {i : Int} {c : Nat} (h : c ∈ intTx i) : c = 45 ∨ c ∈ figs := by
  cases i with
  | ofNat n =>
    rw [show Int.ofNat n = ((n : Nat) : Int) from rfl, intTx_nat] at h
    exact .inr (numL_figs n c h)
  | negSucc n =>
    rw [intTx_neg] at h
    rcases List.mem_cons.mp h with h | h
    · exact .inl h
    · exact .inr (numL_figs _ c h)
theorem intTx_len {i : Int} {k : Nat} (hk : 0 < k) (h : i.natAbs < 10 ^ k) : (intTx i).length ≤ k + 1 := by
  cases i with
  | ofNat n =>
    rw [show Int.ofNat n = ((n : Nat) : Int) from rfl, intTx_nat]
    have := TL.numL_len hk (n := n) h
    omega
  | negSucc n =>
    rw [intTx_neg, List.length_cons]
    have := TL.numL_len hk (n := n + 1) h
    omega
theorem len_catS {a b : Tx} (h : a.length + b.length ≤ 16000000) : addD (.str (sT a)) (.str (sT b)) = some (.str (sT (a ++ b))) := by
  show (if (sT a).length + (sT b).length ≤ sizeLine then some (D.str (sT a ++ sT b)) else none) = _
  rw [sT_len, sT_len, if_pos (by rw [sizeLine_is]; omega), sT_app]
def numTx (q : Rat) : Tx := if q.den = 1 then intTx q.num else intTx q.num ++ [47] ++ intTx ((q.den : Nat) : Int)
def NB (k : Nat) (q : Rat) : Prop := q.num.natAbs < 10 ^ k ∧ q.den < 10 ^ k
theorem numTx_len {q : Rat} {k : Nat} (hk : 0 < k) (h : NB k q) : (numTx q).length ≤ 2 * k + 3 := by
  have h1 := intTx_len hk h.1
  have h2 := intTx_len (i := ((q.den : Nat) : Int)) hk (by rw [Int.natAbs_natCast]; exact h.2)
  unfold numTx
  split
  · omega
  · simp only [List.length_append, List.length_cons, List.length_nil]; omega
theorem numTx_mem {q : Rat} {c : Nat} (h : c ∈ numTx q) : c = 45 ∨ c = 47 ∨ c ∈ figs := by
  unfold numTx at h
  split at h
  · rcases intTx_mem h with h | h
    · exact .inl h
    · exact .inr (.inr h)
  · rcases List.mem_append.mp h with h | h
    · rcases List.mem_append.mp h with h | h
      · rcases intTx_mem h with h | h
        · exact .inl h
        · exact .inr (.inr h)
      · exact .inr (.inl (List.mem_singleton.mp h))
    · rcases intTx_mem h with h | h
      · exact .inl h
      · exact .inr (.inr h)
theorem rr0 (q : Rat) : ixA (eRat.en q) (.int 0) = some (.int q.num) := rfl
theorem rr1 (q : Rat) : ixA (eRat.en q) (.int 1) = some (.int ((q.den : Nat) : Int)) := rfl
theorem number_text_gen {q : Rat} {k : Nat} (hk : 0 < k) (hk2 : k ≤ 570) (h : NB k q) : runF 1 none (sSeq (sIf (tVal (eOp2 eqD (eOp2 ixA (eVar 0) (eCon (.int 1))) (eCon (.int 1)))) (sRet (eArg strI (aCons (eOp2 ixA (eVar 0) (eCon (.int 0))) aNil))) sSkip) (sRet (eOp2 addD (eOp2 addD (eArg strI (aCons (eOp2 ixA (eVar 0) (eCon (.int 0))) aNil)) (eCon (.str "/"))) (eArg strI (aCons (eOp2 ixA (eVar 0) (eCon (.int 1))) aNil))))) [eRat.en q] = .ok (.str (sT (numTx q)), .non) := by
  have s1 := strI_ok (log_lt hk2 h.1)
  have s2 := strI_ok (i := ((q.den : Nat) : Int)) (log_lt hk2 (by rw [Int.natAbs_natCast]; exact h.2))
  have l1 := intTx_len hk h.1
  have l2 := intTx_len (i := ((q.den : Nat) : Int)) hk (by rw [Int.natAbs_natCast]; exact h.2)
  by_cases hd : q.den = 1
  · have d1 : ((q.den : Nat) : Int) = 1 := by omega
    have e : numTx q = intTx q.num := if_pos hd
    rw [e]
    simp (disch := first | assumption | decide | omega) only [runF, m0, sSeq, sSet, sIf, sRet, sRetN, sExpr, sSkip_ok, sSetA, sSetIx, sFor, sPar, sBind, sAug, eVar, eCon_ok, eOp2, eOp1, eCall, eCallM, eCallT, eTup, eLst, eArg, eIf, tVal, tNotF, tAndF, tOrF, eB, eAndF, eOrF, eNotF, eIxA, eIxO, eCatO, ixA_lst, ixA_tup, ixA_scr, eDNew, eDGet, eDGetO, eDPop, eSortK, eMM, aHoleQ, aHole, aNil_ok, aCons, oNone_ok, oSome, eSlice, eSliceL, iSeqA, iSeq, iRange, iArg, ePeek, tPeek, eOwnM, tYes_ok, bind_ok, bind_exc, bind_stuck, of_some, flatD, SW.gName, List.getD_cons_zero, List.getD_cons_succ, List.set_cons_zero, List.set_cons_succ, List.map_cons, List.map_nil, List.length_cons, List.length_nil, List.cons_append, List.nil_append, List.replicate, Nat.reduceAdd, Nat.reduceSub, addD_int, subD_int, negD_int, repD_int, modD_int, fdivD_int, ltA_int, leA_int, gtA_int, geA_int, eqD_int, neD_int, pow_10_18, pow_10_60, rr0, rr1, decide_eq_true d1, if_true, s1]
  · have d1 : ¬ ((q.den : Nat) : Int) = 1 := by omega
    have e : numTx q = intTx q.num ++ [47] ++ intTx ((q.den : Nat) : Int) := if_neg hd
    have a1 := len_catS (a := intTx q.num) (b := [47]) (by simp only [List.length_cons, List.length_nil]; omega)
    have a2 := len_catS (a := intTx q.num ++ [47]) (b := intTx ((q.den : Nat) : Int)) (by simp only [List.length_append, List.length_cons, List.length_nil]; omega)
    rw [e]
    simp (disch := first | assumption | decide | omega) only [runF, m0, sSeq, sSet, sIf, sRet, sRetN, sExpr, sSkip_ok, sSetA, sSetIx, sFor, sPar, sBind, sAug, eVar, eCon_ok, eOp2, eOp1, eCall, eCallM, eCallT, eTup, eLst, eArg, eIf, tVal, tNotF, tAndF, tOrF, eB, eAndF, eOrF, eNotF, eIxA, eIxO, eCatO, ixA_lst, ixA_tup, ixA_scr, eDNew, eDGet, eDGetO, eDPop, eSortK, eMM, aHoleQ, aHole, aNil_ok, aCons, oNone_ok, oSome, eSlice, eSliceL, iSeqA, iSeq, iRange, iArg, ePeek, tPeek, eOwnM, tYes_ok, bind_ok, bind_exc, bind_stuck, of_some, flatD, SW.gName, List.getD_cons_zero, List.getD_cons_succ, List.set_cons_zero, List.set_cons_succ, List.map_cons, List.map_nil, List.length_cons, List.length_nil, List.cons_append, List.nil_append, List.replicate, Nat.reduceAdd, Nat.reduceSub, addD_int, subD_int, negD_int, repD_int, modD_int, fdivD_int, ltA_int, leA_int, gtA_int, geA_int, eqD_int, neD_int, pow_10_18, pow_10_60, l_slash, rr0, rr1, decide_eq_false d1, Bool.false_eq_true, if_false, s1, s2, a1, a2]
theorem law_number_text_ok {q : Rat} {k : Nat} (hk : 0 < k) (hk2 : k ≤ 570) (h : NB k q) : m__law_number_text [eRat.en q] = .ok (.str (sT (numTx q)), .non) := number_text_gen hk hk2 h
/-! joined -/
abbrev joinX (s : Nat) (parts : List Tx) : Tx := TL.joinL [s] parts
theorem cut_join {s : Nat} {parts : List Tx} (h0 : parts ≠ []) (h : ∀ p ∈ parts, s ∉ p) : cutT s (joinX s parts) = parts := by
  have e := TL.spl_join (s := s) (S := []) h0 h
  rw [spl_cut] at e
  cases e2 : cutT s (joinX s parts) with
  | nil => exact (cutT_ne s _ e2).elim
  | cons p ps =>
    rw [show TL.joinL [s] parts = joinX s parts from rfl, e2] at e
    simpa using e
theorem join_len (s : Nat) {n : Nat} : ∀ {parts : List Tx}, (∀ p ∈ parts, p.length ≤ n) → (joinX s parts).length ≤ parts.length * (n + 1)
  | [], _ => by simp [joinX, TL.joinL]
  | [p], h => by
    have := h p List.mem_cons_self
    show p.length ≤ 1 * (n + 1)
    omega
  | p :: q :: r, h => by
    have h1 := h p List.mem_cons_self
    have h2 := join_len s (parts := q :: r) fun x hx => h x (List.mem_cons_of_mem _ hx)
    show (p ++ ([s] ++ TL.joinL [s] (q :: r))).length ≤ _
    have e : (p :: q :: r).length * (n + 1) = (q :: r).length * (n + 1) + (n + 1) := by rw [List.length_cons, Nat.add_mul, Nat.one_mul]
    have h2 : (TL.joinL [s] (q :: r)).length ≤ (q :: r).length * (n + 1) := h2
    rw [e]
    simp only [List.length_append, List.length_cons, List.length_nil] at h2 ⊢
    omega
theorem join_mem (s : Nat) {c : Nat} : ∀ {parts : List Tx}, c ∈ joinX s parts → c = s ∨ ∃ p ∈ parts, c ∈ p
  | [], h => by cases h
  | [p], h => .inr ⟨p, List.mem_cons_self, h⟩
  | p :: q :: r, h => by
    have h : c ∈ p ++ ([s] ++ TL.joinL [s] (q :: r)) := h
    rcases List.mem_append.mp h with h | h
    · exact .inr ⟨p, List.mem_cons_self, h⟩
    · rcases List.mem_append.mp h with h | h
      · exact .inl (List.mem_singleton.mp h)
      · rcases join_mem s (parts := q :: r) h with h | ⟨x, hx, hc⟩
        · exact .inl h
        · exact .inr ⟨x, List.mem_cons_of_mem _ hx, hc⟩
theorem sum_len {n : Nat} : ∀ {parts : List Tx}, (∀ p ∈ parts, p.length ≤ n) → ((parts.map sT).map (·.length)).sum ≤ parts.length * n
  | [], _ => by simp
  | p :: r, h => by
    have h1 := h p List.mem_cons_self
    have h2 := sum_len (parts := r) fun x hx => h x (List.mem_cons_of_mem _ hx)
    rw [List.map_cons, List.map_cons, List.sum_cons, sT_len, List.length_cons, Nat.add_mul, Nat.one_mul]
    omega
theorem joinT_ok (s : Nat) {parts : List Tx} {n : Nat} (h : ∀ p ∈ parts, p.length ≤ n) (hz : parts.length * (n + 1) ≤ 16000000) : joinD (sT [s]) (.lst (parts.map fun p => D.str (sT p))) = some (.str (sT (joinX s parts))) := by
  have e1 : strsOf (parts.map fun p => D.str (sT p)) = some (parts.map sT) := by
    have := strsOf_strs (parts.map sT)
    rw [List.map_map] at this
    exact this
  have e2 : joinOk (sT [s]) (parts.map sT) = true := by
    unfold joinOk
    have h1 := sum_len h
    rw [Nat.mul_add, Nat.mul_one] at hz
    rw [sT_len, List.length_map]
    refine decide_eq_true ?_
    show _ + parts.length * 1 ≤ _
    omega
  show (match strsOf (parts.map fun p => D.str (sT p)) with
    | some ys => if joinOk (sT [s]) ys = true then some (D.str (Txt.join (sT [s]) ys)) else none
    | none => none) = _
  rw [e1]
  show (if joinOk (sT [s]) (parts.map sT) = true then some (D.str (Txt.join (sT [s]) (parts.map sT))) else none) = _
  rw [if_pos e2]
  congr 2
  refine ext_tl ?_
  rw [TL.join_eq, TL.tl_join, List.map_map]
  have e3 : (tl ∘ sT) = id := rfl
  rw [e3, List.map_id]
  rfl
def wordTx (w : Wd) : Tx := if w = [] then [101] else joinX 46 (w.map intTx)
def WdB (w : Wd) : Prop := w.length ≤ 5 ∧ ∀ x ∈ w, 0 ≤ x ∧ x < 10
theorem wordTx_len {w : Wd} (h : WdB w) : (wordTx w).length ≤ 20 := by
  unfold wordTx
  split
  · decide
  · have h1 := join_len 46 (parts := w.map intTx) (n := 2) fun p hp => by
      obtain ⟨x, hx, rfl⟩ := List.mem_map.mp hp
      exact intTx_len (k := 1) (by decide) (by have := h.2 x hx; omega)
    rw [List.length_map] at h1
    have := h.1
    omega
theorem wordTx_mem {w : Wd} {c : Nat} (h : c ∈ wordTx w) : c = 101 ∨ c = 46 ∨ c = 45 ∨ c ∈ figs := by
  unfold wordTx at h
  split at h
  · exact .inl (List.mem_singleton.mp h)
  · rcases join_mem 46 h with h | ⟨p, hp, hc⟩
    · exact .inr (.inl h)
    · obtain ⟨x, _, rfl⟩ := List.mem_map.mp hp
      exact .inr (.inr (intTx_mem hc))
theorem eq_w0 (w : Wd) : eqD (eWord.en w) (.tup []) = some (.bl (decide (w = []))) := eqD_enc eWord (by decide) w []
theorem word_text_gen {w : Wd} (h : WdB w) : runF 2 none (sSeq (sIf (tVal (eOp2 eqD (eVar 0) (eTup aNil))) (sRet (eCon (.str "e"))) sSkip) (sRet (eTm joinD (eCon (.str ".")) (eComp [1] (iSeqA (eVar 0)) (gName 1) tYesF (eArg strI (aCons (eVar 1) aNil)))))) [eWord.en w] = .ok (.str (sT (wordTx w)), .non) := by
  have q1 := eq_w0 w
  by_cases h0 : w = []
  · have e : wordTx w = [101] := if_pos h0
    rw [e]
    simp (disch := first | assumption | decide | omega) only [runF, m0, sSeq, sSet, sIf, sRet, sRetN, sExpr, sSkip_ok, sSetA, sSetIx, sFor, sPar, sBind, sAug, eVar, eCon_ok, eOp2, eOp1, eCall, eCallM, eCallT, eTup, eLst, eArg, eIf, tVal, tNotF, tAndF, tOrF, eB, eAndF, eOrF, eNotF, eIxA, eIxO, eCatO, ixA_lst, ixA_tup, ixA_scr, eDNew, eDGet, eDGetO, eDPop, eSortK, eMM, aHoleQ, aHole, aNil_ok, aCons, oNone_ok, oSome, eSlice, eSliceL, iSeqA, iSeq, iRange, iArg, ePeek, tPeek, eOwnM, tYes_ok, bind_ok, bind_exc, bind_stuck, of_some, flatD, SW.gName, List.getD_cons_zero, List.getD_cons_succ, List.set_cons_zero, List.set_cons_succ, List.map_cons, List.map_nil, List.length_cons, List.length_nil, List.cons_append, List.nil_append, List.replicate, Nat.reduceAdd, Nat.reduceSub, addD_int, subD_int, negD_int, repD_int, modD_int, fdivD_int, ltA_int, leA_int, gtA_int, geA_int, eqD_int, neD_int, pow_10_18, pow_10_60, l_e, q1, decide_eq_true h0, if_true]
  · have e : wordTx w = joinX 46 (w.map intTx) := if_neg h0
    have ec := compL_of (vs := [1]) (b := gName 1) (tt := tYesF) (fe := (eArg strI (aCons (eVar 1) aNil))) (f := D.int) (ρ := [some (eWord.en w), none]) (c := fun _ => true) (h := fun i => D.str (sT (intTx i))) w (by
      intro i hi
      refine ⟨[some (eWord.en w), some (.int i)], rfl, [some (eWord.en w), some (.int i)], rfl, (fun z => by cases z), fun _ => ⟨[some (eWord.en w), some (.int i)], ?_, rfl⟩⟩
      have s1 := strI_ok (i := i) (log_lt (k := 1) (by decide) (by have := h.2 i hi; omega))
      simp (disch := first | assumption | decide | omega) only [runF, m0, sSeq, sSet, sIf, sRet, sRetN, sExpr, sSkip_ok, sSetA, sSetIx, sFor, sPar, sBind, sAug, eVar, eCon_ok, eOp2, eOp1, eCall, eCallM, eCallT, eTup, eLst, eArg, eIf, tVal, tNotF, tAndF, tOrF, eB, eAndF, eOrF, eNotF, eIxA, eIxO, eCatO, ixA_lst, ixA_tup, ixA_scr, eDNew, eDGet, eDGetO, eDPop, eSortK, eMM, aHoleQ, aHole, aNil_ok, aCons, oNone_ok, oSome, eSlice, eSliceL, iSeqA, iSeq, iRange, iArg, ePeek, tPeek, eOwnM, tYes_ok, bind_ok, bind_exc, bind_stuck, of_some, flatD, SW.gName, List.getD_cons_zero, List.getD_cons_succ, List.set_cons_zero, List.set_cons_succ, List.map_cons, List.map_nil, List.length_cons, List.length_nil, List.cons_append, List.nil_append, List.replicate, Nat.reduceAdd, Nat.reduceSub, addD_int, subD_int, negD_int, repD_int, modD_int, fdivD_int, ltA_int, leA_int, gtA_int, geA_int, eqD_int, neD_int, pow_10_18, pow_10_60, s1])
    rw [List.filter_eq_self.mpr fun a _ => rfl] at ec
    have j1 := joinT_ok 46 (parts := w.map intTx) (n := 2) (fun p hp => by
      obtain ⟨x, hx, rfl⟩ := List.mem_map.mp hp
      exact intTx_len (k := 1) (by decide) (by have := h.2 x hx; omega)) (by rw [List.length_map]; have := h.1; omega)
    rw [List.map_map] at j1
    have e4 : ((fun p => D.str (sT p)) ∘ intTx) = fun i => D.str (sT (intTx i)) := rfl
    rw [e4] at j1
    rw [e]
    simp (disch := first | assumption | decide | omega) only [runF, m0, sSeq, sSet, sIf, sRet, sRetN, sExpr, sSkip_ok, sSetA, sSetIx, sFor, sPar, sBind, sAug, eVar, eCon_ok, eOp2, eOp1, eCall, eCallM, eCallT, eTup, eLst, eArg, eIf, tVal, tNotF, tAndF, tOrF, eB, eAndF, eOrF, eNotF, eIxA, eIxO, eCatO, ixA_lst, ixA_tup, ixA_scr, eDNew, eDGet, eDGetO, eDPop, eSortK, eMM, aHoleQ, aHole, aNil_ok, aCons, oNone_ok, oSome, eSlice, eSliceL, iSeqA, iSeq, iRange, iArg, ePeek, tPeek, eOwnM, tYes_ok, bind_ok, bind_exc, bind_stuck, of_some, flatD, SW.gName, List.getD_cons_zero, List.getD_cons_succ, List.set_cons_zero, List.set_cons_succ, List.map_cons, List.map_nil, List.length_cons, List.length_nil, List.cons_append, List.nil_append, List.replicate, Nat.reduceAdd, Nat.reduceSub, addD_int, subD_int, negD_int, repD_int, modD_int, fdivD_int, ltA_int, leA_int, gtA_int, geA_int, eqD_int, neD_int, pow_10_18, pow_10_60, l_dot, q1, decide_eq_false h0, Bool.false_eq_true, if_false, items_w, eComp, ec, eTm, j1]
theorem law_word_text_ok {w : Wd} (h : WdB w) : m__law_word_text [eWord.en w] = .ok (.str (sT (wordTx w)), .non) := word_text_gen h
def termTx (p : Wd × Rat) : Tx := numTx p.2 ++ [58] ++ wordTx p.1
def sumTx (A : SumT) : Tx := if A = [] then [48] else joinX 32 (A.map termTx)
structure TB (k : Nat) (p : Wd × Rat) : Prop where
  w : WdB p.1
  n : NB k p.2
theorem termTx_len {p : Wd × Rat} {k : Nat} (hk : 0 < k) (h : TB k p) : (termTx p).length ≤ 2 * k + 24 := by
  have h1 := numTx_len hk h.n
  have h2 := wordTx_len h.w
  unfold termTx
  simp only [List.length_append, List.length_cons, List.length_nil]
  omega
theorem termTx_mem {p : Wd × Rat} {c : Nat} (h : c ∈ termTx p) : c = 45 ∨ c = 47 ∨ c = 58 ∨ c = 101 ∨ c = 46 ∨ c ∈ figs := by
  unfold termTx at h
  rcases List.mem_append.mp h with h | h
  · rcases List.mem_append.mp h with h | h
    · rcases numTx_mem h with h | h | h
      · exact .inl h
      · exact .inr (.inl h)
      · exact .inr (.inr (.inr (.inr (.inr h))))
    · exact .inr (.inr (.inl (List.mem_singleton.mp h)))
  · rcases wordTx_mem h with h | h | h | h
    · exact .inr (.inr (.inr (.inl h)))
    · exact .inr (.inr (.inr (.inr (.inl h))))
    · exact .inl h
    · exact .inr (.inr (.inr (.inr (.inr h))))
theorem small_ok {c : Nat} (h : c = 45 ∨ c = 47 ∨ c = 58 ∨ c = 101 ∨ c = 46 ∨ c ∈ figs) : c < 128 ∧ c ≠ 32 := by
  rcases h with h | h | h | h | h | h
  · omega
  · omega
  · omega
  · omega
  · omega
  · have := (fig_mem c).mp h; omega
theorem termTx_okT (p : Wd × Rat) : OkT (termTx p) := fun c hc => by have := small_ok (termTx_mem hc); omega
theorem sumTx_okT (A : SumT) : OkT (sumTx A) := by
  unfold sumTx
  split
  · exact ok_lit rfl
  · intro c hc
    rcases join_mem 32 hc with h | ⟨p, hp, hc⟩
    · omega
    · obtain ⟨x, _, rfl⟩ := List.mem_map.mp hp
      exact termTx_okT x c hc
theorem eq_s0 (A : SumT) : eqD (eSum.en A) (.lst []) = some (.bl (decide (A = []))) := eqD_enc eSum (by decide) A []
theorem sum_text_gen {m1 m2 : List D → Out (D × D)} {A : SumT} {k : Nat} (hk : 0 < k) (hk2 : k ≤ 570) (h : ∀ p ∈ A, TB k p) (hl : A.length ≤ 1000) (h1 : ∀ p ∈ A, m1 [eRat.en p.2] = .ok (.str (sT (numTx p.2)), .non)) (h2 : ∀ p ∈ A, m2 [eWord.en p.1] = .ok (.str (sT (wordTx p.1)), .non)) :
    runF 3 none (sSeq (sIf (tVal (eOp2 eqD (eVar 0) (eLst aNil))) (sRet (eCon (.str "0"))) sSkip) (sRet (eTm joinD (eCon (.str " ")) (eComp [1, 2] (iSeqA (eVar 0)) (gTup 2 (gCons (gName 1) (gCons (gName 2) gNil))) tYesF (eOp2 addD (eOp2 addD (eCall m1 (aCons (eVar 2) aNil)) (eCon (.str ":"))) (eCall m2 (aCons (eVar 1) aNil))))))) [eSum.en A] = .ok (.str (sT (sumTx A)), .non) := by
  have q1 := eq_s0 A
  by_cases h0 : A = []
  · have e : sumTx A = [48] := if_pos h0
    rw [e]
    simp (disch := first | assumption | decide | omega) only [runF, m0, sSeq, sSet, sIf, sRet, sRetN, sExpr, sSkip_ok, sSetA, sSetIx, sFor, sPar, sBind, sAug, eVar, eCon_ok, eOp2, eOp1, eCall, eCallM, eCallT, eTup, eLst, eArg, eIf, tVal, tNotF, tAndF, tOrF, eB, eAndF, eOrF, eNotF, eIxA, eIxO, eCatO, ixA_lst, ixA_tup, ixA_scr, eDNew, eDGet, eDGetO, eDPop, eSortK, eMM, aHoleQ, aHole, aNil_ok, aCons, oNone_ok, oSome, eSlice, eSliceL, iSeqA, iSeq, iRange, iArg, ePeek, tPeek, eOwnM, tYes_ok, bind_ok, bind_exc, bind_stuck, of_some, flatD, SW.gName, List.getD_cons_zero, List.getD_cons_succ, List.set_cons_zero, List.set_cons_succ, List.map_cons, List.map_nil, List.length_cons, List.length_nil, List.cons_append, List.nil_append, List.replicate, Nat.reduceAdd, Nat.reduceSub, addD_int, subD_int, negD_int, repD_int, modD_int, fdivD_int, ltA_int, leA_int, gtA_int, geA_int, eqD_int, neD_int, pow_10_18, pow_10_60, l_zero, q1, decide_eq_true h0, if_true]
  · have e : sumTx A = joinX 32 (A.map termTx) := if_neg h0
    have ec := compL_of (vs := [1, 2]) (b := gTup 2 (gCons (gName 1) (gCons (gName 2) gNil))) (tt := tYesF) (fe := (eOp2 addD (eOp2 addD (eCall m1 (aCons (eVar 2) aNil)) (eCon (.str ":"))) (eCall m2 (aCons (eVar 1) aNil)))) (f := eTerm.en) (ρ := [some (eSum.en A), none, none]) (c := fun _ => true) (h := fun p => D.str (sT (termTx p))) A (by
      intro p hp
      refine ⟨[some (eSum.en A), some (eWord.en p.1), some (eRat.en p.2)], rfl, [some (eSum.en A), some (eWord.en p.1), some (eRat.en p.2)], rfl, (fun z => by cases z), fun _ => ⟨[some (eSum.en A), some (eWord.en p.1), some (eRat.en p.2)], ?_, rfl⟩⟩
      have s1 := h1 p hp
      have s2 := h2 p hp
      have l1 := numTx_len hk (h p hp).n
      have l2 := wordTx_len (h p hp).w
      have a1 := len_catS (a := numTx p.2) (b := [58]) (by simp only [List.length_cons, List.length_nil]; omega)
      have a2 := len_catS (a := numTx p.2 ++ [58]) (b := wordTx p.1) (by simp only [List.length_append, List.length_cons, List.length_nil]; omega)
      have e5 : termTx p = numTx p.2 ++ [58] ++ wordTx p.1 := rfl
      rw [e5]
      simp (disch := first | assumption | decide | omega) only [runF, m0, sSeq, sSet, sIf, sRet, sRetN, sExpr, sSkip_ok, sSetA, sSetIx, sFor, sPar, sBind, sAug, eVar, eCon_ok, eOp2, eOp1, eCall, eCallM, eCallT, eTup, eLst, eArg, eIf, tVal, tNotF, tAndF, tOrF, eB, eAndF, eOrF, eNotF, eIxA, eIxO, eCatO, ixA_lst, ixA_tup, ixA_scr, eDNew, eDGet, eDGetO, eDPop, eSortK, eMM, aHoleQ, aHole, aNil_ok, aCons, oNone_ok, oSome, eSlice, eSliceL, iSeqA, iSeq, iRange, iArg, ePeek, tPeek, eOwnM, tYes_ok, bind_ok, bind_exc, bind_stuck, of_some, flatD, SW.gName, List.getD_cons_zero, List.getD_cons_succ, List.set_cons_zero, List.set_cons_succ, List.map_cons, List.map_nil, List.length_cons, List.length_nil, List.cons_append, List.nil_append, List.replicate, Nat.reduceAdd, Nat.reduceSub, addD_int, subD_int, negD_int, repD_int, modD_int, fdivD_int, ltA_int, leA_int, gtA_int, geA_int, eqD_int, neD_int, pow_10_18, pow_10_60, l_colon, s1, s2, a1, a2])
    rw [List.filter_eq_self.mpr fun a _ => rfl] at ec
    have j1 := joinT_ok 32 (parts := A.map termTx) (n := 2 * k + 24) (fun p hp => by
      obtain ⟨x, hx, rfl⟩ := List.mem_map.mp hp
      exact termTx_len hk (h x hx)) (by
        rw [List.length_map]
        have : A.length * (2 * k + 24 + 1) ≤ 1000 * 1165 := Nat.mul_le_mul hl (by omega)
        omega)
    rw [List.map_map] at j1
    have e4 : ((fun p => D.str (sT p)) ∘ termTx) = fun i => D.str (sT (termTx i)) := rfl
    rw [e4] at j1
    have it : itemsA (eSum.en A) = some (A.map eTerm.en) := rfl
    rw [e]
    simp (disch := first | assumption | decide | omega) only [runF, m0, sSeq, sSet, sIf, sRet, sRetN, sExpr, sSkip_ok, sSetA, sSetIx, sFor, sPar, sBind, sAug, eVar, eCon_ok, eOp2, eOp1, eCall, eCallM, eCallT, eTup, eLst, eArg, eIf, tVal, tNotF, tAndF, tOrF, eB, eAndF, eOrF, eNotF, eIxA, eIxO, eCatO, ixA_lst, ixA_tup, ixA_scr, eDNew, eDGet, eDGetO, eDPop, eSortK, eMM, aHoleQ, aHole, aNil_ok, aCons, oNone_ok, oSome, eSlice, eSliceL, iSeqA, iSeq, iRange, iArg, ePeek, tPeek, eOwnM, tYes_ok, bind_ok, bind_exc, bind_stuck, of_some, flatD, SW.gName, List.getD_cons_zero, List.getD_cons_succ, List.set_cons_zero, List.set_cons_succ, List.map_cons, List.map_nil, List.length_cons, List.length_nil, List.cons_append, List.nil_append, List.replicate, Nat.reduceAdd, Nat.reduceSub, addD_int, subD_int, negD_int, repD_int, modD_int, fdivD_int, ltA_int, leA_int, gtA_int, geA_int, eqD_int, neD_int, pow_10_18, pow_10_60, l_blank, q1, decide_eq_false h0, Bool.false_eq_true, if_false, it, eComp, ec, eTm, j1]
theorem law_sum_text_ok {A : SumT} {k : Nat} (hk : 0 < k) (hk2 : k ≤ 570) (h : ∀ p ∈ A, TB k p) (hl : A.length ≤ 1000) : m__law_sum_text [eSum.en A] = .ok (.str (sT (sumTx A)), .non) := sum_text_gen hk hk2 h hl (fun p hp => law_number_text_ok hk hk2 (h p hp).n) (fun p hp => law_word_text_ok (h p hp).w)
/-! drawn -/
theorem pow_10_9 : powD (.int 10) (.int 9) = some (.int 1000000000) := powD_int (by decide) (by decide)
theorem nb_of {t : Int} {d : Nat} (hd : d ≠ 0) (h1 : t.natAbs < 10 ^ 9) (h2 : d < 10 ^ 9) : NB 9 (mkRat t d) := by
  unfold NB
  rw [mkRat_num' t hd, mkRat_den' t hd]
  constructor
  · have h3 : (t / ((Nat.gcd t.natAbs d : Nat) : Int)).natAbs ≤ t.natAbs := Int.natAbs_ediv_le_natAbs _ _
    omega
  · have := Nat.div_le_self d (Nat.gcd t.natAbs d)
    omega
theorem law_nine_ok {n : Nat} {p : D} (hp : Ps (n + 3) p) : ∃ (r : Rat) (p' : D), m__law_nine [p] = .ok (eRat.en r, p') ∧ NB 9 r ∧ Ps n p' := by
  obtain ⟨g1, p1, e1, g10, g11, hp1⟩ := take_ok (n := n + 2) (many := 6) hp (by decide) (by decide)
  by_cases h3 : g1 < 3
  · have hx : ∃ r : Rat, ixD (.lst [.tup [.int 0, .int 1], .tup [.int 1, .int 1], .tup [.int (-1), .int 1]]) (.int g1) = some (eRat.en r) ∧ NB 9 r := by
      have : g1 = 0 ∨ g1 = 1 ∨ g1 = 2 := by omega
      rcases this with rfl | rfl | rfl
      · exact ⟨0, rfl, by decide, by decide⟩
      · exact ⟨1, rfl, by decide, by decide⟩
      · exact ⟨-1, rfl, by decide, by decide⟩
    obtain ⟨r, er, hr⟩ := hx
    refine ⟨r, p1, ?_, hr, Ps.mono (by omega) hp1⟩
    simp (disch := first | assumption | decide | omega) only [m__law_nine, b__law_nine, runF, m0, sSeq, sSet, sIf, sRet, sRetN, sExpr, sSkip_ok, sSetA, sSetIx, sFor, sPar, sBind, sAug, eVar, eCon_ok, eOp2, eOp1, eCall, eCallM, eCallT, eTup, eLst, eArg, eIf, tVal, tNotF, tAndF, tOrF, eB, eAndF, eOrF, eNotF, eIxA, eIxO, eCatO, ixA_lst, ixA_tup, ixA_scr, eDNew, eDGet, eDGetO, eDPop, eSortK, eMM, aHoleQ, aHole, aNil_ok, aCons, oNone_ok, oSome, eSlice, eSliceL, iSeqA, iSeq, iRange, iArg, ePeek, tPeek, eOwnM, tYes_ok, bind_ok, bind_exc, bind_stuck, of_some, flatD, SW.gName, List.getD_cons_zero, List.getD_cons_succ, List.set_cons_zero, List.set_cons_succ, List.map_cons, List.map_nil, List.length_cons, List.length_nil, List.cons_append, List.nil_append, List.replicate, Nat.reduceAdd, Nat.reduceSub, addD_int, subD_int, negD_int, repD_int, modD_int, fdivD_int, ltA_int, leA_int, gtA_int, geA_int, eqD_int, neD_int, pow_10_18, pow_10_60, e1, decide_eq_true h3, if_true, er, Option.getD_some]
  · obtain ⟨g2, p2, e2, g20, g21, hp2⟩ := take_ok (n := n + 1) (many := 39) hp1 (by decide) (by decide)
    by_cases h5 : g1 < 5
    · obtain ⟨g3, p3, e3, g30, g31, hp3⟩ := take_ok (n := n) (many := 12) hp2 (by decide) (by decide)
      have b1 : bits2 g3 (g1 - 3) = true := bits2_of (a := 10) (b := 10) (by omega) (by omega) (by decide)
      obtain ⟨d, ed, d1, d2⟩ : ∃ d : Nat, 1 + g3 * (g1 - 3) = ((d : Nat) : Int) ∧ d ≠ 0 ∧ d < 10 ^ 9 := by
        have : g1 = 3 ∨ g1 = 4 := by omega
        rcases this with rfl | rfl
        · exact ⟨1, by omega, by decide, by decide⟩
        · exact ⟨(1 + g3).toNat, by omega, by omega, by omega⟩
      have el := law_low_ok (g2 - 19) d1
      refine ⟨mkRat (g2 - 19) d, p3, ?_, nb_of d1 (by omega) d2, hp3⟩
      simp (disch := first | assumption | decide | omega) only [m__law_nine, b__law_nine, runF, m0, sSeq, sSet, sIf, sRet, sRetN, sExpr, sSkip_ok, sSetA, sSetIx, sFor, sPar, sBind, sAug, eVar, eCon_ok, eOp2, eOp1, eCall, eCallM, eCallT, eTup, eLst, eArg, eIf, tVal, tNotF, tAndF, tOrF, eB, eAndF, eOrF, eNotF, eIxA, eIxO, eCatO, ixA_lst, ixA_tup, ixA_scr, eDNew, eDGet, eDGetO, eDPop, eSortK, eMM, aHoleQ, aHole, aNil_ok, aCons, oNone_ok, oSome, eSlice, eSliceL, iSeqA, iSeq, iRange, iArg, ePeek, tPeek, eOwnM, tYes_ok, bind_ok, bind_exc, bind_stuck, of_some, flatD, SW.gName, List.getD_cons_zero, List.getD_cons_succ, List.set_cons_zero, List.set_cons_succ, List.map_cons, List.map_nil, List.length_cons, List.length_nil, List.cons_append, List.nil_append, List.replicate, Nat.reduceAdd, Nat.reduceSub, addD_int, subD_int, negD_int, repD_int, modD_int, fdivD_int, ltA_int, leA_int, gtA_int, geA_int, eqD_int, neD_int, pow_10_18, pow_10_60, e1, decide_eq_false h3, decide_eq_true h5, if_true, if_false, Bool.false_eq_true, e2, e3, ed, el, Option.getD_some]
    · have b1 : bits2 2 1000000000 = true := bits2_l (by decide)
      obtain ⟨g2, p2, e2, g20, g21, hp2⟩ := take_ok (n := n + 1) (many := 2 * 1000000000 - 1) hp1 (by decide) (by decide)
      obtain ⟨g3, p3, e3, g30, g31, hp3⟩ := take_ok (n := n) (many := 1000000000 - 1) hp2 (by decide) (by decide)
      obtain ⟨d, ed, d1, d2⟩ : ∃ d : Nat, 1 + g3 = ((d : Nat) : Int) ∧ d ≠ 0 ∧ d < 10 ^ 9 := ⟨(1 + g3).toNat, by omega, by omega, by omega⟩
      have el := law_low_ok (g2 - 1000000000 + 1) d1
      refine ⟨mkRat (g2 - 1000000000 + 1) d, p3, ?_, nb_of d1 (by omega) d2, hp3⟩
      simp (disch := first | assumption | decide | omega) only [m__law_nine, b__law_nine, runF, m0, sSeq, sSet, sIf, sRet, sRetN, sExpr, sSkip_ok, sSetA, sSetIx, sFor, sPar, sBind, sAug, eVar, eCon_ok, eOp2, eOp1, eCall, eCallM, eCallT, eTup, eLst, eArg, eIf, tVal, tNotF, tAndF, tOrF, eB, eAndF, eOrF, eNotF, eIxA, eIxO, eCatO, ixA_lst, ixA_tup, ixA_scr, eDNew, eDGet, eDGetO, eDPop, eSortK, eMM, aHoleQ, aHole, aNil_ok, aCons, oNone_ok, oSome, eSlice, eSliceL, iSeqA, iSeq, iRange, iArg, ePeek, tPeek, eOwnM, tYes_ok, bind_ok, bind_exc, bind_stuck, of_some, flatD, SW.gName, List.getD_cons_zero, List.getD_cons_succ, List.set_cons_zero, List.set_cons_succ, List.map_cons, List.map_nil, List.length_cons, List.length_nil, List.cons_append, List.nil_append, List.replicate, Nat.reduceAdd, Nat.reduceSub, addD_int, subD_int, negD_int, repD_int, modD_int, fdivD_int, ltA_int, leA_int, gtA_int, geA_int, eqD_int, neD_int, pow_10_18, pow_10_60, pow_10_9, e1, decide_eq_false h3, decide_eq_false h5, if_true, if_false, Bool.false_eq_true, e2, e3, ed, el, Option.getD_some]

/-- a comprehension that draws -/
theorem compL_turn {α ι : Type} {f : ι → D} {en : α → D} {ρf : D → Rho} {vs : List Nat} {b : D → Rho → Option Rho} {fe : Rho → Out (D × Rho)} {Good : α → Prop} {c : Nat} (st : ∀ i n p, Ps (n + c) p → ∃ ρ1, b (f i) (wipeR (ρf p) vs) = some ρ1 ∧ ∃ v p' ρ3, fe ρ1 = .ok (en v, ρ3) ∧ backR vs (ρf p) ρ3 = ρf p' ∧ Good v ∧ Ps n p') :
    ∀ (l : List ι) (n : Nat) (p : D), Ps (n + l.length * c) p → ∃ (ws : List α) (p' : D), compL vs b tYesF fe (l.map f) (ρf p) = .ok (ws.map en, ρf p') ∧ ws.length = l.length ∧ (∀ v ∈ ws, Good v) ∧ Ps n p'
  | [], n, p, hp => ⟨[], p, rfl, rfl, (by simp), by simpa using hp⟩
  | i :: l, n, p, hp => by
    rw [List.length_cons, Nat.succ_mul] at hp
    obtain ⟨ρ1, e1, v, p1, ρ3, e2, e3, hv, hp1⟩ := st i (n + l.length * c) p (Ps.mono (by omega) hp)
    obtain ⟨ws, p', e4, hl, hg, hp'⟩ := compL_turn st l n p1 hp1
    refine ⟨v :: ws, p', ?_, by simp [hl], ?_, hp'⟩
    · rw [List.map_cons]
      unfold compL
      rw [e1]
      dsimp only [tYesF]
      rw [e2]
      dsimp only
      rw [e3, e4, bind_ok]
      rfl
    · intro x hx
      rcases List.mem_cons.mp hx with rfl | hx
      · exact hv
      · exact hg x hx

/-! the drawn sum -/
theorem law_rank_ok' (w : Wd) : m__law_rank [eWord.en w] = .ok (rkE w, .non) := by
  simp (disch := first | assumption | decide | omega) only [m__law_rank, b__law_rank, runF, m0, sSeq, sSet, sIf, sRet, sRetN, sExpr, sSkip_ok, sSetA, sSetIx, sFor, sPar, sBind, sAug, eVar, eCon_ok, eOp2, eOp1, eCall, eCallM, eCallT, eTup, eLst, eArg, eIf, tVal, tNotF, tAndF, tOrF, eB, eAndF, eOrF, eNotF, eIxA, eIxO, eCatO, ixA_lst, ixA_tup, ixA_scr, eDNew, eDGet, eDGetO, eDPop, eSortK, eMM, aHoleQ, aHole, aNil_ok, aCons, oNone_ok, oSome, eSlice, eSliceL, iSeqA, iSeq, iRange, iArg, ePeek, tPeek, eOwnM, tYes_ok, bind_ok, bind_exc, bind_stuck, of_some, flatD, SW.gName, List.getD_cons_zero, List.getD_cons_succ, List.set_cons_zero, List.set_cons_succ, List.map_cons, List.map_nil, List.length_cons, List.length_nil, List.cons_append, List.nil_append, List.replicate, Nat.reduceAdd, Nat.reduceSub, addD_int, subD_int, negD_int, repD_int, modD_int, fdivD_int, ltA_int, leA_int, gtA_int, geA_int, eqD_int, neD_int, pow_10_18, pow_10_60, len_w, rkE]
theorem tuple_i' (w : Wd) : tupleD [.lst (w.map D.int)] = some (eWord.en w) := rfl
structure LS (c n k : Nat) (l : SumT) : Prop where
  gd : Good l
  wd : ∀ p ∈ l, WdOk c p.1
  nb : ∀ p ∈ l, NB k p.2
  sz : l.length ≤ n
theorem mem_set' {l : SumT} {w : Wd} {q : Rat} {p : Wd × Rat} (h : p ∈ setT l w q) : p = (w, q) ∨ p ∈ l := by
  unfold setT at h
  split at h
  · obtain ⟨r, hr, e⟩ := List.mem_map.mp h
    by_cases z : r.1 = w
    · rw [if_pos z] at e
      exact .inl (by rw [← e, z])
    · rw [if_neg z] at e
      exact .inr (e ▸ hr)
  · rcases List.mem_append.mp h with h | h
    · exact .inr h
    · exact .inl (List.mem_singleton.mp h)
theorem keys_set' (l : SumT) (w : Wd) (q : Rat) : (setT l w q).map (·.1) = if (getT l w).isSome = true then l.map (·.1) else l.map (·.1) ++ [w] := by
  unfold setT
  split
  · rw [List.map_map]
    refine List.map_congr_left fun p _ => ?_
    show (if p.1 = w then (p.1, q) else p).1 = p.1
    split <;> rfl
  · rw [List.map_append]; rfl
theorem good_set2 {l : SumT} {w : Wd} {q : Rat} (g : Good l) (hq : q ≠ 0) : Good (setT l w q) := by
  refine ⟨?_, fun p hp => ?_⟩
  · rw [keys_set']
    split
    · exact g.nd
    · rename_i hn
      have hw : w ∉ l.map (·.1) := by
        cases hg : getT l w with
        | none => exact getT_none.mp hg
        | some y => rw [hg] at hn; exact (hn rfl).elim
      refine List.nodup_append.mpr ⟨g.nd, by simp, fun a ha b hb => ?_⟩
      rw [List.mem_singleton] at hb
      subst hb
      exact fun z => hw (z ▸ ha)
  · rcases mem_set' hp with e | hp
    · rw [e]; exact hq
    · exact g.nz p hp
theorem LS.set {c n k : Nat} {l : SumT} {w : Wd} {q : Rat} (h : LS c n k l) (hq : q ≠ 0) (hw : WdOk c w) (hb : NB k q) : LS c (n + 1) k (setT l w q) := by
  refine ⟨good_set2 h.gd hq, fun p hp => ?_, fun p hp => ?_, Nat.le_trans (set_len' _ _ _) (Nat.add_le_add_right h.sz 1)⟩
  · rcases mem_set' hp with e | hp
    · rw [e]; exact hw
    · exact h.wd p hp
  · rcases mem_set' hp with e | hp
    · rw [e]; exact hb
    · exact h.nb p hp
theorem law_drawn_ok {n c many : Nat} (c1 : 1 ≤ c) (c4 : c ≤ 10) (hm : many ≤ 20) {p : D} (hp : Ps (n + many * 9 + 1) p) : ∃ (l : SumT) (p' : D), m__law_sum [p, .int ((c : Nat) : Int), .int ((many : Nat) : Int)] = .ok (eSum.en (toldT l), p') ∧ LS c many 9 l ∧ Ps n p' := by
  have h200 : (2 : Int) ^ 200 = 1606938044258990275541962092341162602522202993782792835301376 := by decide
  obtain ⟨g, p1, e1, g0, g1, hp1⟩ := take_ok (n := n + many * 9) (many := (many : Nat) + 1) hp (by omega) (by omega)
  have hr := rangeD1 (j := g) g0 (by omega)
  obtain ⟨ρ', e, l', p', j, hl, hp', hj, _, y1, y2, y3, rfl⟩ := forL_foldr (b := gName 4) (g := ((sSeq (sSet 5 (eArg tupleD (aCons (eComp [7] (iRange (aCons (eCallM m__law_take 0 0 (aHoleQ 0 (aCons (eCon (.int 6)) aNil))) aNil)) (gName 7) tYesF (eCallM m__law_take 0 0 (aHoleQ 0 (aCons (eVar 1) aNil)))) aNil))) (sSeq (sSet 6 (eCallM m__law_nine 0 0 (aHoleQ 0 aNil))) (sIf (tVal (eOp2 neD (eOp2 ixA (eVar 6) (eCon (.int 0))) (eCon (.int 0)))) (sSetA 3 (eVar 6) (eVar 5)) sSkip))))) (f := fun i : Nat => D.int ((i : Nat) : Int)) (σ := Unit) (step := fun s _ => s)
    (St := fun rem _ ρ => ∃ (l : SumT) (p : D) (j : Nat), LS c j 9 l ∧ Ps (n + rem.length * 9) p ∧ j + rem.length ≤ many ∧ True ∧ ∃ y1 y2 y3, ρ = [some p, some (.int ((c : Nat) : Int)), some (.int ((many : Nat) : Int)), some (dS l), y1, y2, y3, none]) (List.range g.toNat) () [some p1, some (.int ((c : Nat) : Int)), some (.int ((many : Nat) : Int)), some (dS []), none, none, none, none]
    ⟨[], p1, 0, ⟨good_nil, by simp, by simp, Nat.le_refl _⟩, Ps.mono (by rw [List.length_range]; omega) hp1, by rw [List.length_range]; omega, trivial, _, _, _, rfl⟩ (by
    rintro i rem _ ρ ⟨l, p, j, hl, hp, hj, _, y1, y2, y3, rfl⟩
    rw [List.length_cons] at hp hj
    obtain ⟨g2, p2, e2, g20, g21, hp2⟩ := take_ok (n := n + rem.length * 9 + 8) (p := p) (many := 6) (Ps.mono (by omega) hp) (by omega) (by omega)
    have hr2 := rangeD1 (j := g2) g20 (by omega)
    obtain ⟨w, p3, e3, wl, wg, hp3⟩ := compL_turn (vs := [7]) (b := gName 7) (fe := eCallM m__law_take 0 0 (aHoleQ 0 (aCons (eVar 1) aNil))) (en := D.int) (f := fun i : Nat => D.int ((i : Nat) : Int)) (ρf := fun p => [some p, some (.int ((c : Nat) : Int)), some (.int ((many : Nat) : Int)), some (dS l), some (.int ((i : Nat) : Int)), y2, y3, none]) (Good := fun x => 0 ≤ x ∧ x < (c : Int)) (c := 1) (by
      intro i' n p hp
      obtain ⟨g, p1, e, g0, g1, hp1⟩ := take_ok (n := n) (p := p) (many := (c : Nat)) hp (by omega) (by omega)
      refine ⟨[some p, some (.int ((c : Nat) : Int)), some (.int ((many : Nat) : Int)), some (dS l), some (.int ((i : Nat) : Int)), y2, y3, some (.int i')], rfl, g, p1, [some p1, some (.int ((c : Nat) : Int)), some (.int ((many : Nat) : Int)), some (dS l), some (.int ((i : Nat) : Int)), y2, y3, some (.int i')], ?_, rfl, ⟨g0, g1⟩, hp1⟩
      simp (disch := first | assumption | decide | omega) only [runF, m0, sSeq, sSet, sIf, sRet, sRetN, sExpr, sSkip_ok, sSetA, sSetIx, sFor, sPar, sBind, sAug, eVar, eCon_ok, eOp2, eOp1, eCall, eCallM, eCallT, eTup, eLst, eArg, eIf, tVal, tNotF, tAndF, tOrF, eB, eAndF, eOrF, eNotF, eIxA, eIxO, eCatO, ixA_lst, ixA_tup, ixA_scr, eDNew, eDGet, eDGetO, eDPop, eSortK, eMM, aHoleQ, aHole, aNil_ok, aCons, oNone_ok, oSome, eSlice, eSliceL, iSeqA, iSeq, iRange, iArg, ePeek, tPeek, eOwnM, tYes_ok, bind_ok, bind_exc, bind_stuck, of_some, flatD, SW.gName, List.getD_cons_zero, List.getD_cons_succ, List.set_cons_zero, List.set_cons_succ, List.map_cons, List.map_nil, List.length_cons, List.length_nil, List.cons_append, List.nil_append, List.replicate, Nat.reduceAdd, Nat.reduceSub, addD_int, subD_int, negD_int, repD_int, modD_int, fdivD_int, ltA_int, leA_int, gtA_int, geA_int, eqD_int, neD_int, pow_10_18, pow_10_60, e, Option.getD_some]) (List.range g2.toNat) (n + rem.length * 9 + 3) p2 (Ps.mono (by rw [List.length_range]; omega) hp2)
    rw [List.length_range] at wl
    obtain ⟨q, p4, e4, q1, hp4⟩ := law_nine_ok hp3
    have hw : WdOk c w := ⟨by omega, wg⟩
    by_cases hq : q = 0
    · have d0 : q.num = 0 := by rw [hq]; rfl
      refine ⟨_, [some p4, some (.int ((c : Nat) : Int)), some (.int ((many : Nat) : Int)), some (dS l), some (.int ((i : Nat) : Int)), some (eWord.en w), some (eRat.en q), none], rfl, ?_, l, p4, j, hl, hp4, by omega, trivial, _, _, _, rfl⟩
      simp (disch := first | assumption | decide | omega) only [runF, m0, sSeq, sSet, sIf, sRet, sRetN, sExpr, sSkip_ok, sSetA, sSetIx, sFor, sPar, sBind, sAug, eVar, eCon_ok, eOp2, eOp1, eCall, eCallM, eCallT, eTup, eLst, eArg, eIf, tVal, tNotF, tAndF, tOrF, eB, eAndF, eOrF, eNotF, eIxA, eIxO, eCatO, ixA_lst, ixA_tup, ixA_scr, eDNew, eDGet, eDGetO, eDPop, eSortK, eMM, aHoleQ, aHole, aNil_ok, aCons, oNone_ok, oSome, eSlice, eSliceL, iSeqA, iSeq, iRange, iArg, ePeek, tPeek, eOwnM, tYes_ok, bind_ok, bind_exc, bind_stuck, of_some, flatD, SW.gName, List.getD_cons_zero, List.getD_cons_succ, List.set_cons_zero, List.set_cons_succ, List.map_cons, List.map_nil, List.length_cons, List.length_nil, List.cons_append, List.nil_append, List.replicate, Nat.reduceAdd, Nat.reduceSub, addD_int, subD_int, negD_int, repD_int, modD_int, fdivD_int, ltA_int, leA_int, gtA_int, geA_int, eqD_int, neD_int, pow_10_18, pow_10_60, eComp, Option.getD_some, e2, hr2, e3, tuple_i', e4, rr0, decide_eq_true d0, Bool.not_true, Bool.false_eq_true, if_false]
    · have d0 : ¬ q.num = 0 := num_ne hq
      have hs : (dE eRat.en l).length < sizeLine := by rw [dE_len]; exact len_small (by have := hl.sz; omega)
      refine ⟨_, [some p4, some (.int ((c : Nat) : Int)), some (.int ((many : Nat) : Int)), some (dS (setT l w q)), some (.int ((i : Nat) : Int)), some (eWord.en w), some (eRat.en q), none], rfl, ?_, setT l w q, p4, j + 1, hl.set hq hw q1, hp4, by omega, trivial, _, _, _, rfl⟩
      simp (disch := first | assumption | decide | omega) only [runF, m0, sSeq, sSet, sIf, sRet, sRetN, sExpr, sSkip_ok, sSetA, sSetIx, sFor, sPar, sBind, sAug, eVar, eCon_ok, eOp2, eOp1, eCall, eCallM, eCallT, eTup, eLst, eArg, eIf, tVal, tNotF, tAndF, tOrF, eB, eAndF, eOrF, eNotF, eIxA, eIxO, eCatO, ixA_lst, ixA_tup, ixA_scr, eDNew, eDGet, eDGetO, eDPop, eSortK, eMM, aHoleQ, aHole, aNil_ok, aCons, oNone_ok, oSome, eSlice, eSliceL, iSeqA, iSeq, iRange, iArg, ePeek, tPeek, eOwnM, tYes_ok, bind_ok, bind_exc, bind_stuck, of_some, flatD, SW.gName, List.getD_cons_zero, List.getD_cons_succ, List.set_cons_zero, List.set_cons_succ, List.map_cons, List.map_nil, List.length_cons, List.length_nil, List.cons_append, List.nil_append, List.replicate, Nat.reduceAdd, Nat.reduceSub, addD_int, subD_int, negD_int, repD_int, modD_int, fdivD_int, ltA_int, leA_int, gtA_int, geA_int, eqD_int, neD_int, pow_10_18, pow_10_60, eComp, Option.getD_some, e2, hr2, e3, tuple_i', e4, rr0, decide_eq_false d0, Bool.not_false, if_true, keyT_word, Option.bind_some, hs, putD_E])
  rw [List.length_nil] at hp' hj
  have en : D.dct [] = dS [] := rfl
  have ec := compL_of (vs := [5]) (b := gName 5) (tt := tYesF) (fe := (eTup (aCons (eVar 5) (aCons (eOp2 ixA (eVar 3) (eVar 5)) aNil)))) (f := eWord.en) (ρ := [some p', some (.int ((c : Nat) : Int)), some (.int ((many : Nat) : Int)), some (dS l'), y1, y2, y3, none]) (c := fun _ => true) (h := fun w => eTerm.en (w, coef l' w)) ((l'.map (·.1)).mergeSort rkLe) (by
    intro w hw
    have hw := (List.mergeSort_perm _ _).mem_iff.mp hw
    obtain ⟨t, ht, rfl⟩ := List.mem_map.mp hw
    have h1 := getT_of_mem hl.gd.nd (q := t.2) ht
    have x1 := ixA_E h1
    have h2 : coef l' t.1 = t.2 := by unfold coef; rw [h1]; rfl
    refine ⟨[some p', some (.int ((c : Nat) : Int)), some (.int ((many : Nat) : Int)), some (dS l'), y1, some (eWord.en t.1), y3, none], rfl, [some p', some (.int ((c : Nat) : Int)), some (.int ((many : Nat) : Int)), some (dS l'), y1, some (eWord.en t.1), y3, none], rfl, (fun z => by cases z), fun _ => ⟨[some p', some (.int ((c : Nat) : Int)), some (.int ((many : Nat) : Int)), some (dS l'), y1, some (eWord.en t.1), y3, none], ?_, rfl⟩⟩
    rw [h2]
    simp (disch := first | assumption | decide | omega) only [runF, m0, sSeq, sSet, sIf, sRet, sRetN, sExpr, sSkip_ok, sSetA, sSetIx, sFor, sPar, sBind, sAug, eVar, eCon_ok, eOp2, eOp1, eCall, eCallM, eCallT, eTup, eLst, eArg, eIf, tVal, tNotF, tAndF, tOrF, eB, eAndF, eOrF, eNotF, eIxA, eIxO, eCatO, ixA_lst, ixA_tup, ixA_scr, eDNew, eDGet, eDGetO, eDPop, eSortK, eMM, aHoleQ, aHole, aNil_ok, aCons, oNone_ok, oSome, eSlice, eSliceL, iSeqA, iSeq, iRange, iArg, ePeek, tPeek, eOwnM, tYes_ok, bind_ok, bind_exc, bind_stuck, of_some, flatD, SW.gName, List.getD_cons_zero, List.getD_cons_succ, List.set_cons_zero, List.set_cons_succ, List.map_cons, List.map_nil, List.length_cons, List.length_nil, List.cons_append, List.nil_append, List.replicate, Nat.reduceAdd, Nat.reduceSub, addD_int, subD_int, negD_int, repD_int, modD_int, fdivD_int, ltA_int, leA_int, gtA_int, geA_int, eqD_int, neD_int, pow_10_18, pow_10_60, x1]
    rfl)
  rw [List.filter_eq_self.mpr fun a _ => rfl] at ec
  have s := sortK_rk law_rank_ok' (l'.map (·.1))
  have en2 : eSum.en (toldT l') = .lst (((l'.map (·.1)).mergeSort rkLe).map fun w => eTerm.en (w, coef l' w)) := by
    show D.lst ((toldT l').map eTerm.en) = _
    unfold toldT
    rw [List.map_map]
    rfl
  refine ⟨l', p', ?_, ⟨hl.gd, hl.wd, hl.nb, Nat.le_trans hl.sz (by omega)⟩, Ps.mono (by omega) hp'⟩
  rw [en2]
  simp (disch := first | assumption | decide | omega) only [m__law_sum, b__law_sum, runF, m0, sSeq, sSet, sIf, sRet, sRetN, sExpr, sSkip_ok, sSetA, sSetIx, sFor, sPar, sBind, sAug, eVar, eCon_ok, eOp2, eOp1, eCall, eCallM, eCallT, eTup, eLst, eArg, eIf, tVal, tNotF, tAndF, tOrF, eB, eAndF, eOrF, eNotF, eIxA, eIxO, eCatO, ixA_lst, ixA_tup, ixA_scr, eDNew, eDGet, eDGetO, eDPop, eSortK, eMM, aHoleQ, aHole, aNil_ok, aCons, oNone_ok, oSome, eSlice, eSliceL, iSeqA, iSeq, iRange, iArg, ePeek, tPeek, eOwnM, tYes_ok, bind_ok, bind_exc, bind_stuck, of_some, flatD, SW.gName, List.getD_cons_zero, List.getD_cons_succ, List.set_cons_zero, List.set_cons_succ, List.map_cons, List.map_nil, List.length_cons, List.length_nil, List.cons_append, List.nil_append, List.replicate, Nat.reduceAdd, Nat.reduceSub, addD_int, subD_int, negD_int, repD_int, modD_int, fdivD_int, ltA_int, leA_int, gtA_int, geA_int, eqD_int, neD_int, pow_10_18, pow_10_60, Option.getD_some, e1, hr, en, e, items_E, Option.bind_some, s, items_l, eComp, ec]

set_option maxHeartbeats 2000000
/-! what is written is read -/
theorem numL_zero : TL.numL 0 = [48] := TL.numL_lt (n := 0) (by decide)
theorem numL_head : ∀ n : Nat, 0 < n → (TL.numL n).take 1 ≠ [48] := by
  intro n
  induction n using Nat.strongRecOn with
  | ind n ih =>
    intro h0 hz
    by_cases h : n < 10
    · rw [TL.numL_lt h] at hz
      have : 48 + n = 48 := by simpa using hz
      omega
    · rw [TL.numL_step (by omega)] at hz
      have h1 := ih (n / 10) (Nat.div_lt_self h0 (by decide)) (by omega)
      have h2 : TL.numL (n / 10) ≠ [] := TL.numL_ne _
      cases e : TL.numL (n / 10) with
      | nil => exact h2 e
      | cons c r =>
        rw [e] at hz h1
        exact h1 (by simpa using hz)
theorem figT_num {n : Nat} (h : n < 1000000000) : figT (TL.numL n) = some n := by
  have hl : (TL.numL n).length ≤ 9 := TL.numL_len (by decide) (by omega)
  have hv := TL.numL_val n
  have h8 : (TL.numL n).take 1 ≠ [48] ∨ TL.numL n = [48] := by
    by_cases h0 : n = 0
    · subst h0; exact .inr numL_zero
    · exact .inl (numL_head n (by omega))
  unfold figT
  rw [if_pos ⟨⟨TL.numL_ne n, hl, numL_figs n⟩, h8⟩, hv]
theorem wholeT_int {i : Int} (h : i.natAbs < 1000000000) : wholeT (intTx i) = some i := by
  cases i with
  | ofNat n =>
    have e : intTx (Int.ofNat n) = TL.numL n := intTx_nat n
    rw [e, wholeT_pos, figT_num (by simpa using h)]
    · rfl
    · intro z
      have h1 := numL_figs n
      cases e2 : TL.numL n with
      | nil => rw [e2] at z; cases z
      | cons c r =>
        rw [e2] at z h1
        have hc : c = 45 := by simpa using z
        have := (fig_mem c).mp (h1 c List.mem_cons_self)
        omega
  | negSucc n =>
    have hn : n + 1 < 1000000000 := by
      have : (Int.negSucc n).natAbs = n + 1 := rfl
      omega
    have e : intTx (Int.negSucc n) = 45 :: TL.numL (n + 1) := intTx_neg n
    rw [e]
    have f1 := figT_num hn
    show (match figT (TL.numL (n + 1)) with
      | some n => if n = 0 then none else some (-((n : Nat) : Int))
      | none => none) = _
    rw [f1]
    show (if n + 1 = 0 then none else some (-((n + 1 : Nat) : Int))) = _
    rw [if_neg (by omega)]
    rfl
theorem partT_app {s : Nat} : ∀ {a b : Tx}, s ∉ a → partT s (a ++ s :: b) = some (a, b)
  | [], b, _ => by
    show (if s = s then some (([] : Tx), b) else _) = _
    rw [if_pos rfl]
  | c :: a, b, h => by
    have hc : c ≠ s := fun z => h (by rw [z]; exact List.mem_cons_self)
    have ih := partT_app (s := s) (a := a) (b := b) fun z => h (List.mem_cons_of_mem _ z)
    show (if c = s then some (([] : Tx), a ++ s :: b) else (partT s (a ++ s :: b)).map fun p => (c :: p.1, p.2)) = _
    rw [if_neg hc, ih]
    rfl
theorem partT_free {s : Nat} : ∀ {a : Tx}, s ∉ a → partT s a = none
  | [], _ => rfl
  | c :: a, h => by
    have hc : c ≠ s := fun z => h (by rw [z]; exact List.mem_cons_self)
    have ih := partT_free (s := s) (a := a) fun z => h (List.mem_cons_of_mem _ z)
    show (if c = s then _ else (partT s a).map fun p => (c :: p.1, p.2)) = _
    rw [if_neg hc, ih]
    rfl
theorem intTx_free {s : Nat} (h : s ≠ 45) (h2 : s ∉ figs) (i : Int) : s ∉ intTx i := fun z => (intTx_mem z).elim h h2
theorem numT_num {q : Rat} (h : NB 9 q) : numT (numTx q) = some q := by
  have w1 := wholeT_int (i := q.num) h.1
  unfold numTx
  by_cases hd : q.den = 1
  · rw [if_pos hd]
    unfold numT
    rw [partT_free (intTx_free (by decide) (by decide) _)]
    show Option.map (fun n : Int => (n : Rat)) (wholeT (intTx q.num)) = _
    rw [w1]
    show some ((q.num : Int) : Rat) = some q
    congr 1
    exact Rat.ext rfl (by rw [hd]; rfl)
  · rw [if_neg hd]
    unfold numT
    have e : intTx q.num ++ [47] ++ intTx ((q.den : Nat) : Int) = intTx q.num ++ 47 :: intTx ((q.den : Nat) : Int) := by simp
    rw [e, partT_app (intTx_free (by decide) (by decide) _), intTx_nat]
    dsimp only
    rw [w1, figT_num (n := q.den) h.2]
    dsimp only
    have d0 := q.den_nz
    rw [if_pos ⟨by omega, q.reduced⟩, Rat.mkRat_self]
theorem wayT_int {c : Nat} {x : Int} (h0 : 0 ≤ x) (h1 : x < (c : Int)) (hc : c ≤ 10) : wayT c (intTx x) = some x.toNat := by
  obtain ⟨n, rfl⟩ : ∃ n : Nat, x = ((n : Nat) : Int) := ⟨x.toNat, by omega⟩
  unfold wayT
  rw [intTx_nat, figT_num (by omega)]
  dsimp only
  rw [if_pos (by omega), Int.toNat_natCast]
theorem wordT_word {c : Nat} {w : Wd} (h : WdOk c w) (hc : c ≤ 10) : wordT c (wordTx w) = some w := by
  by_cases h0 : w = []
  · subst h0; rfl
  · have e : wordTx w = joinX 46 (w.map intTx) := if_neg h0
    have e2 : cutT 46 (joinX 46 (w.map intTx)) = w.map intTx := cut_join (fun z => h0 (List.map_eq_nil_iff.mp z)) fun p hp => by
      obtain ⟨x, _, rfl⟩ := List.mem_map.mp hp
      exact intTx_free (by decide) (by decide) x
    have ne : wordTx w ≠ [101] := fun z => by
      have : (101 : Nat) ∈ joinX 46 (w.map intTx) := by rw [← e, z]; exact List.mem_cons_self
      rcases join_mem 46 this with h | ⟨p, hp, hq⟩
      · omega
      · obtain ⟨x, _, rfl⟩ := List.mem_map.mp hp
        exact intTx_free (by decide) (by decide) x hq
    have e3 : ((cutT 46 (wordTx w)).map (wayT c)) = w.map fun x => some x.toNat := by
      rw [e, e2, List.map_map]
      refine List.map_congr_left fun x hx => ?_
      exact wayT_int (h.2 x hx).1 (h.2 x hx).2 hc
    unfold wordT
    rw [if_neg ne, e3, if_neg]
    · rw [List.map_map]
      congr 1
      conv => rhs; rw [← List.map_id w]
      refine List.map_congr_left fun x hx => ?_
      have := (h.2 x hx).1
      show ((x.toNat : Nat) : Int) = x
      omega
    · intro z
      rcases z with z | z
      · obtain ⟨x, _, hx⟩ := List.mem_map.mp z
        cases hx
      · rw [List.length_map] at z
        have := h.1
        omega
structure TW (c : Nat) (p : Wd × Rat) : Prop where
  w : WdOk c p.1
  n : NB 9 p.2
  z : p.2 ≠ 0
theorem TW.tb {c : Nat} (hc : c ≤ 10) {p : Wd × Rat} (h : TW c p) : TB 9 p := ⟨⟨h.w.1, fun x hx => by have := h.w.2 x hx; omega⟩, h.n⟩
theorem numTx_free {q : Rat} {s : Nat} (h1 : s ≠ 45) (h2 : s ≠ 47) (h3 : s ∉ figs) : s ∉ numTx q := fun z => by
  rcases numTx_mem z with h | h | h
  · exact h1 h
  · exact h2 h
  · exact h3 h
theorem termT_term {c : Nat} {p : Wd × Rat} (h : TW c p) (hc : c ≤ 10) : termT c (termTx p) = some p := by
  have e : termTx p = numTx p.2 ++ 58 :: wordTx p.1 := by unfold termTx; simp
  unfold termT
  rw [e, partT_app (numTx_free (by decide) (by decide) (by decide))]
  dsimp only
  rw [numT_num h.n, wordT_word h.w hc]
  dsimp only
  rw [if_neg h.z]
theorem readL_terms {c : Nat} (hc : c ≤ 10) : ∀ (B : SumT) (i : Nat) (acc : SumT), (∀ p ∈ B, TW c p) → ((acc ++ B).map (·.1)).Nodup → readL c (B.map termTx) i acc = .inr (acc ++ B)
  | [], i, acc, _, _ => by simp [readL]
  | p :: B, i, acc, h, hn => by
    have ht := termT_term (h p List.mem_cons_self) hc
    have hg : getT acc p.1 = none := getT_none.mpr fun z => by
      rw [List.map_append, List.map_cons] at hn
      have := (List.nodup_append.mp hn).2.2 p.1 z p.1 List.mem_cons_self
      exact this rfl
    have hs : setT acc p.1 p.2 = acc ++ [p] := by
      unfold setT
      rw [hg, if_neg (by decide)]
    rw [List.map_cons]
    unfold readL
    rw [ht]
    dsimp only
    rw [hg, if_neg (by decide), hs, readL_terms hc B (i + 1) (acc ++ [p]) (fun q hq => h q (List.mem_cons_of_mem _ hq)) (by rw [List.append_assoc]; exact hn), List.append_assoc]
    rfl
theorem termTx_free (p : Wd × Rat) : (32 : Nat) ∉ termTx p := fun z => by
  have := small_ok (termTx_mem z)
  exact this.2 rfl
theorem termTx_colon (p : Wd × Rat) : (58 : Nat) ∈ termTx p := by unfold termTx; simp
theorem join_has {s c : Nat} : ∀ {parts : List Tx} {p : Tx}, p ∈ parts → c ∈ p → c ∈ joinX s parts
  | [q], p, h, hc => by rw [List.mem_singleton] at h; subst h; exact hc
  | q :: r :: t, p, h, hc => by
    show c ∈ q ++ ([s] ++ TL.joinL [s] (r :: t))
    rcases List.mem_cons.mp h with rfl | h
    · exact List.mem_append_left _ hc
    · exact List.mem_append_right _ (List.mem_append_right _ (join_has (parts := r :: t) h hc))
/-- the terms, in any order, joined: read they are the sum -/
theorem read_join {c : Nat} (hc : c ≤ 10) {B : SumT} (hB : B ≠ []) (h : ∀ p ∈ B, TW c p) (hn : (B.map (·.1)).Nodup) (hl : B.length ≤ 1000) : m_read_sum [.str (sT (joinX 32 (B.map termTx))), .int ((c : Nat) : Int)] = .ok (eSum.en (toldT B), .non) := by
  have hl2 := join_len 32 (parts := B.map termTx) (n := 2 * 9 + 24) fun p hp => by
    obtain ⟨x, hx, rfl⟩ := List.mem_map.mp hp
    exact termTx_len (by decide) ((h x hx).tb hc)
  rw [List.length_map] at hl2
  have ho : OkT (joinX 32 (B.map termTx)) := fun c hc => by
    rcases join_mem 32 hc with h | ⟨p, hp, hc⟩
    · omega
    · obtain ⟨x, _, rfl⟩ := List.mem_map.mp hp
      exact termTx_okT x c hc
  have ne : joinX 32 (B.map termTx) ≠ [48] := fun z => by
    cases B with
    | nil => exact hB rfl
    | cons p B =>
      have : (58 : Nat) ∈ joinX 32 ((p :: B).map termTx) := join_has (p := termTx p) (by simp) (termTx_colon p)
      rw [z] at this
      exact absurd this (by decide)
  refine read_sum_ok ho (by omega) ne ?_
  rw [cut_join (fun z => hB (List.map_eq_nil_iff.mp z)) fun p hp => by
    obtain ⟨x, _, rfl⟩ := List.mem_map.mp hp
    exact termTx_free x]
  exact readL_terms hc B 0 [] h hn

/-! the law's own -/
theorem number_text_ok {q : Rat} {k : Nat} (hk : 0 < k) (hk2 : k ≤ 570) (h : NB k q) : m_number_text [eRat.en q] = .ok (.str (sT (numTx q)), .non) := number_text_gen hk hk2 h
theorem word_text_ok {w : Wd} (h : WdB w) : m_word_text [eWord.en w] = .ok (.str (sT (wordTx w)), .non) := word_text_gen h
theorem sum_text_ok {A : SumT} {k : Nat} (hk : 0 < k) (hk2 : k ≤ 570) (h : ∀ p ∈ A, TB k p) (hl : A.length ≤ 1000) : m_sum_text [eSum.en A] = .ok (.str (sT (sumTx A)), .non) := sum_text_gen hk hk2 h hl (fun p hp => number_text_ok hk hk2 (h p hp).n) (fun p hp => word_text_ok (h p hp).w)
theorem eq_sums (A B : SumT) : eqD (eSum.en A) (eSum.en B) = some (.bl (decide (A = B))) := eqD_enc eSum (by decide) A B
theorem ne_sums (A B : SumT) : neD (eSum.en A) (eSum.en B) = some (.bl (!decide (A = B))) := neD_enc eSum (by decide) A B
theorem well_loop (A : SumT) (X0 X1 X2 y : Option D) : ∃ y', sForO 3 (gName 4) ((sIf (tOrF (tNotF (tVal (eArg isiD (aCons (eVar 4) (aCons (eCon (.ty .tuple)) aNil))))) (tOrF (tNotF (tVal (eArg isiD (aCons (eOp2 ixA (eVar 4) (eCon (.int 0))) (aCons (eCon (.ty .tuple)) aNil))))) (tNotF (tVal (eArg isiD (aCons (eOp2 ixA (eVar 4) (eCon (.int 1))) (aCons (eCon (.ty .tuple)) aNil))))))) (sRet (eCon (.bl false))) sSkip)) [X0, X1, X2, some (eSum.en A), y] = .ok (.nx [X0, X1, X2, some (eSum.en A), y']) := by
  have body : ∀ p : Wd × Rat, ((sIf (tOrF (tNotF (tVal (eArg isiD (aCons (eVar 4) (aCons (eCon (.ty .tuple)) aNil))))) (tOrF (tNotF (tVal (eArg isiD (aCons (eOp2 ixA (eVar 4) (eCon (.int 0))) (aCons (eCon (.ty .tuple)) aNil))))) (tNotF (tVal (eArg isiD (aCons (eOp2 ixA (eVar 4) (eCon (.int 1))) (aCons (eCon (.ty .tuple)) aNil))))))) (sRet (eCon (.bl false))) sSkip)) [X0, X1, X2, some (eSum.en A), some (eTerm.en p)] = .ok (.nx [X0, X1, X2, some (eSum.en A), some (eTerm.en p)]) := fun p => by
    have i0 := isi_w p.1
    have i1 : isiD [eRat.en p.2, .ty .tuple] = some (.bl true) := rfl
    simp (disch := first | assumption | decide | omega) only [runF, m0, sSeq, sSet, sIf, sRet, sRetN, sExpr, sSkip_ok, sSetA, sSetIx, sFor, sPar, sBind, sAug, eVar, eCon_ok, eOp2, eOp1, eCall, eCallM, eCallT, eTup, eLst, eArg, eIf, tVal, tNotF, tAndF, tOrF, eB, eAndF, eOrF, eNotF, eIxA, eIxO, eCatO, ixA_lst, ixA_tup, ixA_scr, eDNew, eDGet, eDGetO, eDPop, eSortK, eMM, aHoleQ, aHole, aNil_ok, aCons, oNone_ok, oSome, eSlice, eSliceL, iSeqA, iSeq, iRange, iArg, ePeek, tPeek, eOwnM, tYes_ok, bind_ok, bind_exc, bind_stuck, of_some, flatD, SW.gName, List.getD_cons_zero, List.getD_cons_succ, List.set_cons_zero, List.set_cons_succ, List.map_cons, List.map_nil, List.length_cons, List.length_nil, List.cons_append, List.nil_append, List.replicate, Nat.reduceAdd, Nat.reduceSub, addD_int, subD_int, negD_int, repD_int, modD_int, fdivD_int, ltA_int, leA_int, gtA_int, geA_int, eqD_int, neD_int, pow_10_18, pow_10_60, isi_t, t0, t1, i0, i1, Bool.not_true, Bool.false_eq_true, if_false]
  have e := sForO_forL (i := 3) (ds := A.map eTerm.en) (b := gName 4) (g := ((sIf (tOrF (tNotF (tVal (eArg isiD (aCons (eVar 4) (aCons (eCon (.ty .tuple)) aNil))))) (tOrF (tNotF (tVal (eArg isiD (aCons (eOp2 ixA (eVar 4) (eCon (.int 0))) (aCons (eCon (.ty .tuple)) aNil))))) (tNotF (tVal (eArg isiD (aCons (eOp2 ixA (eVar 4) (eCon (.int 1))) (aCons (eCon (.ty .tuple)) aNil))))))) (sRet (eCon (.bl false))) sSkip))) (ρ := [X0, X1, X2, some (eSum.en A), y]) (fun ρ => ∃ y, ρ = [X0, X1, X2, some (eSum.en A), y]) (fun ρ ⟨y, h⟩ => by rw [h]; rfl) (by
    rintro x ρ ρ1 hx ⟨y, rfl⟩ hb ρ2 h2
    obtain ⟨p, _, rfl⟩ := List.mem_map.mp hx
    have hb : some [X0, X1, X2, some (eSum.en A), some (eTerm.en p)] = some ρ1 := hb
    cases hb
    rw [body p] at h2
    rcases h2 with h2 | h2
    · cases h2; exact ⟨_, rfl⟩
    · cases h2) ⟨_, rfl⟩
  rw [e]
  obtain ⟨ρ', e2, y', rfl⟩ := forL_fold (b := gName 4) (g := ((sIf (tOrF (tNotF (tVal (eArg isiD (aCons (eVar 4) (aCons (eCon (.ty .tuple)) aNil))))) (tOrF (tNotF (tVal (eArg isiD (aCons (eOp2 ixA (eVar 4) (eCon (.int 0))) (aCons (eCon (.ty .tuple)) aNil))))) (tNotF (tVal (eArg isiD (aCons (eOp2 ixA (eVar 4) (eCon (.int 1))) (aCons (eCon (.ty .tuple)) aNil))))))) (sRet (eCon (.bl false))) sSkip))) (f := eTerm.en) (σ := Unit) (step := fun s _ => s) (St := fun _ ρ => ∃ y, ρ = [X0, X1, X2, some (eSum.en A), y]) A () [X0, X1, X2, some (eSum.en A), y] ⟨_, rfl⟩ (by
    rintro p _ _ ρ ⟨y, rfl⟩
    exact ⟨[X0, X1, X2, some (eSum.en A), some (eTerm.en p)], _, rfl, body p, _, rfl⟩)
  exact ⟨y', e2⟩
theorem well_ok {A : SumT} {t : D} {c : Nat} (h : m_read_sum [t, .int ((c : Nat) : Int)] = .ok (eSum.en A, .non)) (hl : A.length ≤ 1000) : m__law_well [eSum.en A, .int ((c : Nat) : Int), t] = .ok (.bl true, .non) := by
  have il : isiD [eSum.en A, .ty .list] = some (.bl true) := rfl
  have q1 := ne_sums A A
  have q2 := eq_sums A A
  rw [decide_eq_true rfl] at q1 q2
  obtain ⟨y', lp⟩ := well_loop A (some (eSum.en A)) (some (.int ((c : Nat) : Int))) (some t) none
  have ap : uAppend (A.map eTerm.en) [.tup [.tup [], .tup [.int 7, .int 1]]] = some (.non, A.map eTerm.en ++ [.tup [.tup [], .tup [.int 7, .int 1]]]) := by
    show (if (A.map eTerm.en).length < sizeLine then some (D.non, A.map eTerm.en ++ [D.tup [.tup [], .tup [.int 7, .int 1]]]) else none) = _
    rw [if_pos (by rw [List.length_map, sizeLine_is]; omega)]
  have e3 : (some (eSum.en A)) = some (D.lst (A.map eTerm.en)) := rfl
  simp (disch := first | assumption | decide | omega) only [m__law_well, b__law_well, runF, m0, sSeq, sSet, sIf, sRet, sRetN, sExpr, sSkip_ok, sSetA, sSetIx, sFor, sPar, sBind, sAug, eVar, eCon_ok, eOp2, eOp1, eCall, eCallM, eCallT, eTup, eLst, eArg, eIf, tVal, tNotF, tAndF, tOrF, eB, eAndF, eOrF, eNotF, eIxA, eIxO, eCatO, ixA_lst, ixA_tup, ixA_scr, eDNew, eDGet, eDGetO, eDPop, eSortK, eMM, aHoleQ, aHole, aNil_ok, aCons, oNone_ok, oSome, eSlice, eSliceL, iSeqA, iSeq, iRange, iArg, ePeek, tPeek, eOwnM, tYes_ok, bind_ok, bind_exc, bind_stuck, of_some, flatD, SW.gName, List.getD_cons_zero, List.getD_cons_succ, List.set_cons_zero, List.set_cons_succ, List.map_cons, List.map_nil, List.length_cons, List.length_nil, List.cons_append, List.nil_append, List.replicate, Nat.reduceAdd, Nat.reduceSub, addD_int, subD_int, negD_int, repD_int, modD_int, fdivD_int, ltA_int, leA_int, gtA_int, geA_int, eqD_int, neD_int, pow_10_18, pow_10_60, h, il, q1, Bool.not_true, Bool.false_eq_true, if_false, lp]
  have q3 : eqD (.lst (A.map eTerm.en)) (.lst (A.map eTerm.en)) = some (.bl true) := q2
  simp (disch := first | assumption | decide | omega) only [runF, m0, sSeq, sSet, sIf, sRet, sRetN, sExpr, sSkip_ok, sSetA, sSetIx, sFor, sPar, sBind, sAug, eVar, eCon_ok, eOp2, eOp1, eCall, eCallM, eCallT, eTup, eLst, eArg, eIf, tVal, tNotF, tAndF, tOrF, eB, eAndF, eOrF, eNotF, eIxA, eIxO, eCatO, ixA_lst, ixA_tup, ixA_scr, eDNew, eDGet, eDGetO, eDPop, eSortK, eMM, aHoleQ, aHole, aNil_ok, aCons, oNone_ok, oSome, eSlice, eSliceL, iSeqA, iSeq, iRange, iArg, ePeek, tPeek, eOwnM, tYes_ok, bind_ok, bind_exc, bind_stuck, of_some, flatD, SW.gName, List.getD_cons_zero, List.getD_cons_succ, List.set_cons_zero, List.set_cons_succ, List.map_cons, List.map_nil, List.length_cons, List.length_nil, List.cons_append, List.nil_append, List.replicate, Nat.reduceAdd, Nat.reduceSub, addD_int, subD_int, negD_int, repD_int, modD_int, fdivD_int, ltA_int, leA_int, gtA_int, geA_int, eqD_int, neD_int, pow_10_18, pow_10_60, e3, ap, h, q3, sum_en]
theorem len_tsM (xs : List Tx) : lenA [.lst (xs.map fun p => D.str (sT p))] = some (.int (xs.length : Nat)) := by
  show some (D.int ((xs.map fun p => D.str (sT p)).length : Nat)) = _
  rw [List.length_map]
theorem insM (xs : List Tx) (k : Nat) (t : Tx) (hl : xs.length < 16000000) (hk : k < 16000002) : uInsert (xs.map fun p => D.str (sT p)) [.int ((k : Nat) : Int), .str (sT t)] = some (.non, (xs.take k ++ [t] ++ xs.drop k).map fun p => D.str (sT p)) := by
  have hz : (0 : Int) ≤ ((k : Nat) : Int) ∧ ((k : Nat) : Int) < 2 ^ 63 ∧ (xs.map fun p => D.str (sT p)).length < sizeLine := ⟨by omega, by omega, by rw [List.length_map, sizeLine_is]; omega⟩
  unfold uInsert
  dsimp only
  rw [if_pos hz, Int.toNat_natCast, List.map_append, List.map_append, List.map_take, List.map_drop]
  rfl
/-! the sum in another order -/
theorem mixed_w {A0 p p1 w q a b t : D} {c : D} {E E2 rest : List D} {N g : Int} {y3 y4 y5 : Option D} {R : Out Fl} (s1 : m__law_number_text [q] = .ok (a, .non)) (s2 : m__law_word_text [w] = .ok (b, .non)) (c1 : addD a (.str (sT [58])) = some c) (c2 : addD c b = some t) (ll : lenA [.lst E] = some (.int N)) (e1 : m__law_take [p, .int (N + 1)] = .ok (.int g, p1)) (ii : uInsert E [.int g, t] = some (.non, E2))
    (ih : forL (gTup 2 (gCons (gName 3) (gCons (gName 4) gNil))) ((sSeq (sSet 5 (eOp2 addD (eOp2 addD (eCall m__law_number_text (aCons (eVar 4) aNil)) (eCon (.str ":"))) (eCall m__law_word_text (aCons (eVar 3) aNil)))) (sExpr (eOwnM uInsert 2 (aCons (eCallM m__law_take 0 1 (aHoleQ 1 (aCons (ePeek (eOp2 addD (eArg lenA (aCons (eVar 2) aNil)) (eCon (.int 1)))) aNil))) (aCons (eVar 5) aNil)))))) rest [some A0, some p1, some (.lst E2), some w, some q, some t] = R) : forL (gTup 2 (gCons (gName 3) (gCons (gName 4) gNil))) ((sSeq (sSet 5 (eOp2 addD (eOp2 addD (eCall m__law_number_text (aCons (eVar 4) aNil)) (eCon (.str ":"))) (eCall m__law_word_text (aCons (eVar 3) aNil)))) (sExpr (eOwnM uInsert 2 (aCons (eCallM m__law_take 0 1 (aHoleQ 1 (aCons (ePeek (eOp2 addD (eArg lenA (aCons (eVar 2) aNil)) (eCon (.int 1)))) aNil))) (aCons (eVar 5) aNil)))))) (.tup [w, q] :: rest) [some A0, some p, some (.lst E), y3, y4, y5] = R := by
  unfold forL
  simp (disch := first | assumption | decide | omega) only [runF, m0, sSeq, sSet, sIf, sRet, sRetN, sExpr, sSkip_ok, sSetA, sSetIx, sFor, sPar, sBind, sAug, eVar, eCon_ok, eOp2, eOp1, eCall, eCallM, eCallT, eTup, eLst, eArg, eIf, tVal, tNotF, tAndF, tOrF, eB, eAndF, eOrF, eNotF, eIxA, eIxO, eCatO, ixA_lst, ixA_tup, ixA_scr, eDNew, eDGet, eDGetO, eDPop, eSortK, eMM, aHoleQ, aHole, aNil_ok, aCons, oNone_ok, oSome, eSlice, eSliceL, iSeqA, iSeq, iRange, iArg, ePeek, tPeek, eOwnM, tYes_ok, bind_ok, bind_exc, bind_stuck, of_some, flatD, SW.gName, List.getD_cons_zero, List.getD_cons_succ, List.set_cons_zero, List.set_cons_succ, List.map_cons, List.map_nil, List.length_cons, List.length_nil, List.cons_append, List.nil_append, List.replicate, Nat.reduceAdd, Nat.reduceSub, addD_int, subD_int, negD_int, repD_int, modD_int, fdivD_int, ltA_int, leA_int, gtA_int, geA_int, eqD_int, neD_int, pow_10_18, pow_10_60, SW.gTup, SW.gCons, SW.gNil, Option.bind_some, if_true, s1, s2, l_colon, c1, c2, ll, e1, Option.getD_some, ii]
  exact ih
theorem mixed_loop (A0 : D) : ∀ (A : SumT) (done : SumT) (ts : List Tx) (n : Nat) (p : D) (y3 y4 y5 : Option D), (∀ x ∈ A, TB 9 x) → (∃ B : SumT, B.Perm done ∧ ts = B.map termTx) → done.length + A.length ≤ 1000 → Ps (n + A.length) p →
    ∃ (ts' : List Tx) (p' : D) (z3 z4 z5 : Option D), forL (gTup 2 (gCons (gName 3) (gCons (gName 4) gNil))) ((sSeq (sSet 5 (eOp2 addD (eOp2 addD (eCall m__law_number_text (aCons (eVar 4) aNil)) (eCon (.str ":"))) (eCall m__law_word_text (aCons (eVar 3) aNil)))) (sExpr (eOwnM uInsert 2 (aCons (eCallM m__law_take 0 1 (aHoleQ 1 (aCons (ePeek (eOp2 addD (eArg lenA (aCons (eVar 2) aNil)) (eCon (.int 1)))) aNil))) (aCons (eVar 5) aNil)))))) (A.map eTerm.en) [some A0, some p, some (.lst (ts.map fun t => D.str (sT t))), y3, y4, y5] = .ok (.nx [some A0, some p', some (.lst (ts'.map fun t => D.str (sT t))), z3, z4, z5]) ∧ (∃ B : SumT, B.Perm (done ++ A) ∧ ts' = B.map termTx) ∧ Ps n p'
  | [], done, ts, n, p, y3, y4, y5, _, hB, _, hp => ⟨ts, p, y3, y4, y5, rfl, by rw [List.append_nil]; exact hB, hp⟩
  | x :: A, done, ts, n, p, y3, y4, y5, hT, ⟨B, hB, hts⟩, hl, hp => by
    rw [List.length_cons] at hl hp
    have tx := hT x List.mem_cons_self
    have h200 : (2 : Int) ^ 200 = 1606938044258990275541962092341162602522202993782792835301376 := by decide
    have s1 := law_number_text_ok (by decide) (by decide) tx.n
    have s2 := law_word_text_ok tx.w
    have l1 := numTx_len (by decide) tx.n
    have l2 := wordTx_len tx.w
    have a1 := len_catS (a := numTx x.2) (b := [58]) (by simp only [List.length_cons, List.length_nil]; omega)
    have a2 := len_catS (a := numTx x.2 ++ [58]) (b := wordTx x.1) (by simp only [List.length_append, List.length_cons, List.length_nil]; omega)
    have lB : B.length = done.length := hB.length_eq
    have lt : ts.length = done.length := by rw [hts, List.length_map, lB]
    have ll := len_tsM ts
    obtain ⟨g, p1, e1, g0, g1, hp1⟩ := take_ok (n := n + A.length) (many := ((ts.length : Nat) : Int) + 1) (Ps.mono (by omega) hp) (by omega) (by omega)
    obtain ⟨k, rfl⟩ : ∃ k : Nat, g = ((k : Nat) : Int) := ⟨g.toNat, by omega⟩
    have ii := insM ts k (termTx x) (by omega) (by omega)
    obtain ⟨ts', p', z3, z4, z5, ih, hB', hp'⟩ := mixed_loop A0 A (done ++ [x]) (ts.take k ++ [termTx x] ++ ts.drop k) n p1 (some (eWord.en x.1)) (some (eRat.en x.2)) (some (.str (sT (termTx x)))) (fun q hq => hT q (List.mem_cons_of_mem _ hq)) ⟨B.take k ++ [x] ++ B.drop k, by
        refine List.Perm.trans ?_ (List.Perm.append hB (List.Perm.refl [x]))
        have h1 : (B.take k ++ [x] ++ B.drop k).Perm (B.take k ++ B.drop k ++ [x]) := by
          rw [List.append_assoc, List.append_assoc]
          exact List.Perm.append_left _ List.perm_append_comm
        rw [List.take_append_drop] at h1
        exact h1, by rw [hts]; simp⟩ (by rw [List.length_append]; simp only [List.length_cons, List.length_nil]; omega) hp1
    refine ⟨ts', p', z3, z4, z5, ?_, by rw [List.append_assoc] at hB'; exact hB', hp'⟩
    exact mixed_w s1 s2 a1 a2 ll e1 ii ih
theorem mixed_up_ok {A : SumT} {n : Nat} {p : D} (hT : ∀ x ∈ A, TB 9 x) (hl : A.length ≤ 100) (hp : Ps (n + A.length) p) : ∃ (B : SumT) (p' : D), m__law_mixed_up [eSum.en A, p] = .ok (.str (sT (joinX 32 (B.map termTx))), p') ∧ B.Perm A ∧ Ps n p' := by
  obtain ⟨ts', p', z3, z4, z5, lp, ⟨B, hB, hts⟩, hp'⟩ := mixed_loop (eSum.en A) A [] [] n p none none none hT ⟨[], List.Perm.refl _, rfl⟩ (by rw [List.length_nil]; omega) hp
  rw [List.nil_append] at hB
  have lB := hB.length_eq
  have jj := joinT_ok 32 (parts := ts') (n := 2 * 9 + 24) (fun q hq => by
    rw [hts] at hq
    obtain ⟨x, hx, rfl⟩ := List.mem_map.mp hq
    exact termTx_len (by decide) (hT x (hB.mem_iff.mp hx))) (by rw [hts, List.length_map]; omega)
  refine ⟨B, p', ?_, hB, hp'⟩
  rw [← hts]
  have it : itemsA (eSum.en A) = some (A.map eTerm.en) := rfl
  have e0 : ([] : List Tx).map (fun t => D.str (sT t)) = [] := rfl
  rw [e0] at lp
  simp (disch := first | assumption | decide | omega) only [m__law_mixed_up, b__law_mixed_up, runF, m0, sSeq, sSet, sIf, sRet, sRetN, sExpr, sSkip_ok, sSetA, sSetIx, sFor, sPar, sBind, sAug, eVar, eCon_ok, eOp2, eOp1, eCall, eCallM, eCallT, eTup, eLst, eArg, eIf, tVal, tNotF, tAndF, tOrF, eB, eAndF, eOrF, eNotF, eIxA, eIxO, eCatO, ixA_lst, ixA_tup, ixA_scr, eDNew, eDGet, eDGetO, eDPop, eSortK, eMM, aHoleQ, aHole, aNil_ok, aCons, oNone_ok, oSome, eSlice, eSliceL, iSeqA, iSeq, iRange, iArg, ePeek, tPeek, eOwnM, tYes_ok, bind_ok, bind_exc, bind_stuck, of_some, flatD, SW.gName, List.getD_cons_zero, List.getD_cons_succ, List.set_cons_zero, List.set_cons_succ, List.map_cons, List.map_nil, List.length_cons, List.length_nil, List.cons_append, List.nil_append, List.replicate, Nat.reduceAdd, Nat.reduceSub, addD_int, subD_int, negD_int, repD_int, modD_int, fdivD_int, ltA_int, leA_int, gtA_int, geA_int, eqD_int, neD_int, pow_10_18, pow_10_60, it, lp, eTm, l_blank, jj, Option.getD_some]
/-! a great number -/
theorem ranks_of : ∀ B : SumT, keysOf m__law_word_rank (B.map eTerm.en) = some (B.map fun p => (rkE p.1, rkKey p.1))
  | [] => rfl
  | p :: B => by
    have e : m__law_word_rank [eTerm.en p] = .ok (rkE p.1, .non) := by
      have h := law_rank_ok' p.1
      simp (disch := first | assumption | decide | omega) only [m__law_word_rank, b__law_word_rank, runF, m0, sSeq, sSet, sIf, sRet, sRetN, sExpr, sSkip_ok, sSetA, sSetIx, sFor, sPar, sBind, sAug, eVar, eCon_ok, eOp2, eOp1, eCall, eCallM, eCallT, eTup, eLst, eArg, eIf, tVal, tNotF, tAndF, tOrF, eB, eAndF, eOrF, eNotF, eIxA, eIxO, eCatO, ixA_lst, ixA_tup, ixA_scr, eDNew, eDGet, eDGetO, eDPop, eSortK, eMM, aHoleQ, aHole, aNil_ok, aCons, oNone_ok, oSome, eSlice, eSliceL, iSeqA, iSeq, iRange, iArg, ePeek, tPeek, eOwnM, tYes_ok, bind_ok, bind_exc, bind_stuck, of_some, flatD, SW.gName, List.getD_cons_zero, List.getD_cons_succ, List.set_cons_zero, List.set_cons_succ, List.map_cons, List.map_nil, List.length_cons, List.length_nil, List.cons_append, List.nil_append, List.replicate, Nat.reduceAdd, Nat.reduceSub, addD_int, subD_int, negD_int, repD_int, modD_int, fdivD_int, ltA_int, leA_int, gtA_int, geA_int, eqD_int, neD_int, pow_10_18, pow_10_60, t0, h]
    rw [List.map_cons]
    unfold keysOf
    rw [e]
    dsimp only
    rw [rkE_py, ranks_of B]
    rfl
theorem sort_terms (B : SumT) : ∃ C : SumT, C.Perm B ∧ sortK m__law_word_rank (B.map eTerm.en) = some (C.map eTerm.en) := by
  refine ⟨B.mergeSort fun a b => rkLe a.1 b.1, List.mergeSort_perm _ _, ?_⟩
  unfold sortK
  rw [ranks_of]
  dsimp only
  have e : (B.map fun p => (rkE p.1, rkKey p.1)).map (·.2) = (B.map (·.1)).map rkKey := by rw [List.map_map, List.map_map]; rfl
  rw [e, rk_sortable, if_pos rfl]
  congr 1
  refine (List.map_mergeSort (r := fun a b => rkLe a.1 b.1) (s := PySem.W.dataLe false (keyFn m__law_word_rank)) (f := eTerm.en) (l := B) fun a _ b _ => ?_).symm
  have kf : ∀ w, keyFn m__law_word_rank (eTerm.en w) = rkKey w.1 := fun w => by
    have e1 : m__law_word_rank [eTerm.en w] = .ok (rkE w.1, .non) := by
      have h := law_rank_ok' w.1
      simp (disch := first | assumption | decide | omega) only [m__law_word_rank, b__law_word_rank, runF, m0, sSeq, sSet, sIf, sRet, sRetN, sExpr, sSkip_ok, sSetA, sSetIx, sFor, sPar, sBind, sAug, eVar, eCon_ok, eOp2, eOp1, eCall, eCallM, eCallT, eTup, eLst, eArg, eIf, tVal, tNotF, tAndF, tOrF, eB, eAndF, eOrF, eNotF, eIxA, eIxO, eCatO, ixA_lst, ixA_tup, ixA_scr, eDNew, eDGet, eDGetO, eDPop, eSortK, eMM, aHoleQ, aHole, aNil_ok, aCons, oNone_ok, oSome, eSlice, eSliceL, iSeqA, iSeq, iRange, iArg, ePeek, tPeek, eOwnM, tYes_ok, bind_ok, bind_exc, bind_stuck, of_some, flatD, SW.gName, List.getD_cons_zero, List.getD_cons_succ, List.set_cons_zero, List.set_cons_succ, List.map_cons, List.map_nil, List.length_cons, List.length_nil, List.cons_append, List.nil_append, List.replicate, Nat.reduceAdd, Nat.reduceSub, addD_int, subD_int, negD_int, repD_int, modD_int, fdivD_int, ltA_int, leA_int, gtA_int, geA_int, eqD_int, neD_int, pow_10_18, pow_10_60, t0, h]
    unfold keyFn
    rw [e1]
    dsimp only
    rw [rkE_py]
  show rkLe a.1 b.1 = !PySem.W.dataLt (keyFn m__law_word_rank (eTerm.en b)) (keyFn m__law_word_rank (eTerm.en a))
  rw [kf, kf, rkKey_lt]
  rfl
theorem pow_10_40 : powD (.int 10) (.int 40) = some (.int 10000000000000000000000000000000000000000) := powD_int (by decide) (by decide)
theorem pow_10_30 : powD (.int 10) (.int 30) = some (.int 1000000000000000000000000000000) := powD_int (by decide) (by decide)
theorem nb_41 {t : Int} {d : Nat} (hd : d ≠ 0) (h1 : t.natAbs < 10 ^ 41) (h2 : d < 10 ^ 41) : NB 41 (mkRat t d) := by
  unfold NB
  rw [mkRat_num' t hd, mkRat_den' t hd]
  constructor
  · have h3 : (t / ((Nat.gcd t.natAbs d : Nat) : Int)).natAbs ≤ t.natAbs := Int.natAbs_ediv_le_natAbs _ _
    omega
  · have := Nat.div_le_self d (Nat.gcd t.natAbs d)
    omega
theorem ne_w (a b : Wd) : neD (eWord.en a) (eWord.en b) = some (.bl (!decide (a = b))) := neD_enc eWord (by decide) a b
theorem zero5 : (.tup [.int 0, .int 0, .int 0, .int 0, .int 0] : D) = eWord.en [0, 0, 0, 0, 0] := rfl
theorem great_loop (X0 X1 X2 X3 : Option D) : ∀ (A G : SumT) (y5 y6 : Option D), G.length + A.length ≤ 1000 → ∃ (G' : SumT) (z5 z6 : Option D), forL (gTup 2 (gCons (gName 5) (gCons (gName 6) gNil))) ((sIf (tVal (eOp2 neD (eVar 5) (eTup (aCons (eCon (.int 0)) (aCons (eCon (.int 0)) (aCons (eCon (.int 0)) (aCons (eCon (.int 0)) (aCons (eCon (.int 0)) aNil)))))))) (sExpr (eOwnM uAppend 4 (aCons (eTup (aCons (eVar 5) (aCons (eVar 6) aNil))) aNil))) sSkip)) (A.map eTerm.en) [X0, X1, X2, X3, some (.lst (G.map eTerm.en)), y5, y6] = .ok (.nx [X0, X1, X2, X3, some (.lst (G'.map eTerm.en)), z5, z6]) ∧ (∀ p ∈ G', p ∈ G ∨ p ∈ A) ∧ G'.length ≤ G.length + A.length
  | [], G, y5, y6, _ => ⟨G, y5, y6, rfl, fun p hp => .inl hp, by simp⟩
  | x :: A, G, y5, y6, hl => by
    rw [List.length_cons] at hl
    have q1 := ne_w x.1 [0, 0, 0, 0, 0]
    have xt : eTerm.en x = .tup [eWord.en x.1, eRat.en x.2] := rfl
    rw [List.map_cons]
    unfold forL
    by_cases h : x.1 = [0, 0, 0, 0, 0]
    · obtain ⟨G', z5, z6, ih, h1, h2⟩ := great_loop X0 X1 X2 X3 A G (some (eWord.en x.1)) (some (eRat.en x.2)) (by omega)
      refine ⟨G', z5, z6, ?_, fun p hp => (h1 p hp).imp id fun z => List.mem_cons_of_mem _ z, by rw [List.length_cons]; omega⟩
      rw [xt]
      simp (disch := first | assumption | decide | omega) only [runF, m0, sSeq, sSet, sIf, sRet, sRetN, sExpr, sSkip_ok, sSetA, sSetIx, sFor, sPar, sBind, sAug, eVar, eCon_ok, eOp2, eOp1, eCall, eCallM, eCallT, eTup, eLst, eArg, eIf, tVal, tNotF, tAndF, tOrF, eB, eAndF, eOrF, eNotF, eIxA, eIxO, eCatO, ixA_lst, ixA_tup, ixA_scr, eDNew, eDGet, eDGetO, eDPop, eSortK, eMM, aHoleQ, aHole, aNil_ok, aCons, oNone_ok, oSome, eSlice, eSliceL, iSeqA, iSeq, iRange, iArg, ePeek, tPeek, eOwnM, tYes_ok, bind_ok, bind_exc, bind_stuck, of_some, flatD, SW.gName, List.getD_cons_zero, List.getD_cons_succ, List.set_cons_zero, List.set_cons_succ, List.map_cons, List.map_nil, List.length_cons, List.length_nil, List.cons_append, List.nil_append, List.replicate, Nat.reduceAdd, Nat.reduceSub, addD_int, subD_int, negD_int, repD_int, modD_int, fdivD_int, ltA_int, leA_int, gtA_int, geA_int, eqD_int, neD_int, pow_10_18, pow_10_60, SW.gTup, SW.gCons, SW.gNil, Option.bind_some, if_true, zero5, q1, decide_eq_true h, Bool.not_true, Bool.false_eq_true, if_false]
      exact ih
    · obtain ⟨G', z5, z6, ih, h1, h2⟩ := great_loop X0 X1 X2 X3 A (G ++ [x]) (some (eWord.en x.1)) (some (eRat.en x.2)) (by rw [List.length_append]; simp only [List.length_cons, List.length_nil]; omega)
      refine ⟨G', z5, z6, ?_, fun p hp => ?_, by rw [List.length_append] at h2; simp only [List.length_cons, List.length_nil] at h2 ⊢; omega⟩
      · rw [List.map_append] at ih
        have ap : uAppend (G.map eTerm.en) [.tup [eWord.en x.1, eRat.en x.2]] = some (.non, G.map eTerm.en ++ [eTerm.en x]) := by
          show (if (G.map eTerm.en).length < sizeLine then some (D.non, G.map eTerm.en ++ [D.tup [eWord.en x.1, eRat.en x.2]]) else none) = _
          rw [if_pos (by rw [List.length_map, sizeLine_is]; omega), xt]
        rw [xt]
        simp (disch := first | assumption | decide | omega) only [runF, m0, sSeq, sSet, sIf, sRet, sRetN, sExpr, sSkip_ok, sSetA, sSetIx, sFor, sPar, sBind, sAug, eVar, eCon_ok, eOp2, eOp1, eCall, eCallM, eCallT, eTup, eLst, eArg, eIf, tVal, tNotF, tAndF, tOrF, eB, eAndF, eOrF, eNotF, eIxA, eIxO, eCatO, ixA_lst, ixA_tup, ixA_scr, eDNew, eDGet, eDGetO, eDPop, eSortK, eMM, aHoleQ, aHole, aNil_ok, aCons, oNone_ok, oSome, eSlice, eSliceL, iSeqA, iSeq, iRange, iArg, ePeek, tPeek, eOwnM, tYes_ok, bind_ok, bind_exc, bind_stuck, of_some, flatD, SW.gName, List.getD_cons_zero, List.getD_cons_succ, List.set_cons_zero, List.set_cons_succ, List.map_cons, List.map_nil, List.length_cons, List.length_nil, List.cons_append, List.nil_append, List.replicate, Nat.reduceAdd, Nat.reduceSub, addD_int, subD_int, negD_int, repD_int, modD_int, fdivD_int, ltA_int, leA_int, gtA_int, geA_int, eqD_int, neD_int, pow_10_18, pow_10_60, SW.gTup, SW.gCons, SW.gNil, Option.bind_some, if_true, zero5, q1, decide_eq_false h, Bool.not_false, ap]
        exact ih
      · rcases h1 p hp with h | h
        · rcases List.mem_append.mp h with h | h
          · exact .inl h
          · rw [List.mem_singleton] at h; subst h; exact .inr List.mem_cons_self
        · exact .inr (List.mem_cons_of_mem _ h)
theorem great_walk {p p1 p2 p3 p4 A q T : D} {E C : List D} {g1 g2 g3 g4 s m t d : Int} {z5 z6 : Option D} (e1 : m__law_take [p, .int 10000000000000000000000000000000000000000] = .ok (.int g1, p1)) (e2 : m__law_take [p1, .int 2] = .ok (.int g2, p2)) (x2 : ixD (.lst [.int 1, .int (-1)]) (.int g2) = some (.int s)) (mm : repD (.int (1 + g1)) (.int s) = some (.int t))
    (e3 : m__law_take [p2, .int 2] = .ok (.int g3, p3)) (x3 : ixD (.lst [.int 1, .int 1000000000000000000000000000000]) (.int g3) = some (.int m)) (e4 : m__law_take [p3, .int m] = .ok (.int g4, p4)) (lw : m__law_low [.int t, .int (1 + g4)] = .ok (q, .non)) (it : itemsA A = some E)
    (lp : forL (gTup 2 (gCons (gName 5) (gCons (gName 6) gNil))) ((sIf (tVal (eOp2 neD (eVar 5) (eTup (aCons (eCon (.int 0)) (aCons (eCon (.int 0)) (aCons (eCon (.int 0)) (aCons (eCon (.int 0)) (aCons (eCon (.int 0)) aNil)))))))) (sExpr (eOwnM uAppend 4 (aCons (eTup (aCons (eVar 5) (aCons (eVar 6) aNil))) aNil))) sSkip)) E [some p4, some A, some (.int t), some q, some (.lst [.tup [.tup [.int 0, .int 0, .int 0, .int 0, .int 0], q]]), none, none] = .ok (.nx [some p4, some A, some (.int t), some q, some (.lst C), z5, z6]))
    {C2 : List D} (so : sortK m__law_word_rank C = some C2) (s1 : m_sum_text [.lst C2] = .ok (T, .non)) (s2 : m__law_sum_text [.lst C2] = .ok (T, .non)) (qq : eqD T T = some (.bl true)) : m__law_great_well [p, A] = .ok (.bl true, p4) := by
  simp (maxSteps := 4000000) (disch := first | assumption | decide | omega) only [m__law_great_well, b__law_great_well, runF, m0, sSeq, sSet, sIf, sRet, sRetN, sExpr, sSkip_ok, sSetA, sSetIx, sFor, sPar, sBind, sAug, eVar, eCon_ok, eOp2, eOp1, eCall, eCallM, eCallT, eTup, eLst, eArg, eIf, tVal, tNotF, tAndF, tOrF, eB, eAndF, eOrF, eNotF, eIxA, eIxO, eCatO, ixA_lst, ixA_tup, ixA_scr, eDNew, eDGet, eDGetO, eDPop, eSortK, eMM, aHoleQ, aHole, aNil_ok, aCons, oNone_ok, oSome, eSlice, eSliceL, iSeqA, iSeq, iRange, iArg, ePeek, tPeek, eOwnM, tYes_ok, bind_ok, bind_exc, bind_stuck, of_some, flatD, SW.gName, List.getD_cons_zero, List.getD_cons_succ, List.set_cons_zero, List.set_cons_succ, List.map_cons, List.map_nil, List.length_cons, List.length_nil, List.cons_append, List.nil_append, List.replicate, Nat.reduceAdd, Nat.reduceSub, addD_int, subD_int, negD_int, repD_int, modD_int, fdivD_int, ltA_int, leA_int, gtA_int, geA_int, eqD_int, neD_int, pow_10_18, pow_10_60, pow_10_40, pow_10_30, e1, e2, x2, mm, e3, x3, e4, lw, it, items_l, lp, so, s1, s2, qq, Option.getD_some, Option.bind_some, if_true]

theorem two_of (a b : Int) {g : Int} (h0 : 0 ≤ g) (h1 : g < 2) : ∃ s, ixD (.lst [.int a, .int b]) (.int g) = some (.int s) ∧ (s = a ∨ s = b) := by
  have : g = 0 ∨ g = 1 := by omega
  rcases this with rfl | rfl
  · exact ⟨a, rfl, .inl rfl⟩
  · exact ⟨b, rfl, .inr rfl⟩
theorem great_ok {A : SumT} {n : Nat} {p : D} (hT : ∀ x ∈ A, TB 9 x) (hl : A.length ≤ 20) (hp : Ps (n + 4) p) : ∃ p', m__law_great_well [p, eSum.en A] = .ok (.bl true, p') ∧ Ps n p' := by
  have h200 : (2 : Int) ^ 200 = 1606938044258990275541962092341162602522202993782792835301376 := by decide
  obtain ⟨g1, p1, e1, g10, g11, hp1⟩ := take_ok (n := n + 3) (many := 10000000000000000000000000000000000000000) hp (by decide) (by omega)
  obtain ⟨g2, p2, e2, g20, g21, hp2⟩ := take_ok (n := n + 2) (many := 2) hp1 (by decide) (by decide)
  obtain ⟨s, x2, hs⟩ := two_of 1 (-1) g20 g21
  obtain ⟨g3, p3, e3, g30, g31, hp3⟩ := take_ok (n := n + 1) (many := 2) hp2 (by decide) (by decide)
  obtain ⟨m, x3, hm⟩ := two_of 1 1000000000000000000000000000000 g30 g31
  obtain ⟨g4, p4, e4, g40, g41, hp4⟩ := take_ok (n := n) (many := m) hp3 (by rcases hm with rfl | rfl <;> omega) (by rcases hm with rfl | rfl <;> omega)
  have n200 : (2 : Nat) ^ 200 > 10 ^ 50 := by decide
  have mm : repD (.int (1 + g1)) (.int s) = some (.int ((1 + g1) * s)) := repD_int (bits2_of (a := 200) (b := 10) (by omega) (by rcases hs with rfl | rfl <;> decide) (by decide))
  obtain ⟨d, ed, d0, d1⟩ : ∃ d : Nat, 1 + g4 = ((d : Nat) : Int) ∧ d ≠ 0 ∧ d < 10 ^ 41 := ⟨(1 + g4).toNat, by omega, by omega, by rcases hm with rfl | rfl <;> omega⟩
  have lw := law_low_ok ((1 + g1) * s) d0
  have hq : NB 41 (mkRat ((1 + g1) * s) d) := nb_41 d0 (by rcases hs with rfl | rfl <;> omega) d1
  generalize mkRat ((1 + g1) * s) d = q at lw hq
  rw [← ed] at lw
  obtain ⟨G, z5, z6, lp, h1, h2⟩ := great_loop (some p4) (some (eSum.en A)) (some (.int ((1 + g1) * s))) (some (eRat.en q)) A [([0, 0, 0, 0, 0], q)] none none (by simp only [List.length_cons, List.length_nil]; omega)
  obtain ⟨C, hC, so⟩ := sort_terms G
  have hz5 : ∀ y ∈ ([0, 0, 0, 0, 0] : Wd), (0 : Int) ≤ y ∧ y < 10 := by decide
  have hCT : ∀ x ∈ C, TB 41 x := fun x hx => by
    rcases h1 x (hC.mem_iff.mp hx) with h | h
    · rw [List.mem_singleton] at h
      subst h
      exact ⟨⟨show ([0, 0, 0, 0, 0] : Wd).length ≤ 5 by decide, hz5⟩, hq⟩
    · have := hT x h
      exact ⟨this.w, Nat.lt_of_lt_of_le this.n.1 (Nat.pow_le_pow_right (by decide) (by decide)), Nat.lt_of_lt_of_le this.n.2 (Nat.pow_le_pow_right (by decide) (by decide))⟩
  have lC : C.length ≤ 1000 := by rw [hC.length_eq]; simp only [List.length_cons, List.length_nil] at h2; omega
  have s1 := sum_text_ok (k := 41) (by decide) (by decide) hCT lC
  have s2 := law_sum_text_ok (k := 41) (by decide) (by decide) hCT lC
  have qq := eqT (sumTx_okT C) (sumTx_okT C)
  rw [decide_eq_true rfl] at qq
  have it : itemsA (eSum.en A) = some (A.map eTerm.en) := rfl
  have lp : forL (gTup 2 (gCons (gName 5) (gCons (gName 6) gNil))) ((sIf (tVal (eOp2 neD (eVar 5) (eTup (aCons (eCon (.int 0)) (aCons (eCon (.int 0)) (aCons (eCon (.int 0)) (aCons (eCon (.int 0)) (aCons (eCon (.int 0)) aNil)))))))) (sExpr (eOwnM uAppend 4 (aCons (eTup (aCons (eVar 5) (aCons (eVar 6) aNil))) aNil))) sSkip)) (A.map eTerm.en) [some p4, some (eSum.en A), some (.int ((1 + g1) * s)), some (eRat.en q), some (.lst [.tup [.tup [.int 0, .int 0, .int 0, .int 0, .int 0], eRat.en q]]), none, none] = .ok (.nx [some p4, some (eSum.en A), some (.int ((1 + g1) * s)), some (eRat.en q), some (.lst (G.map eTerm.en)), z5, z6]) := lp
  exact ⟨p4, great_walk (d := 0) e1 e2 x2 mm e3 x3 e4 lw it lp so s1 s2 qq, hp4⟩
theorem cell_w {ns : List Int} {k i c : Int} {p p1 p2 p3 p4 A T T2 : D} {y2 y3 y4 y5 y6 : Option D} {b : Bool} (e0 : m__law_at [.scr ns, .int k] = .ok (.int i, .non)) (e1 : m__law_purse [.int i, .int (50 + k)] = .ok (p, .non)) (e2 : m__law_take [p, .int 6] = .ok (.int c, p1))
    (e3 : m__law_sum [p1, .int (1 + c), .int 9] = .ok (A, p2)) (el : listD [A] = some A) (e4 : m_sum_text [A] = .ok (T, .non)) (is : isiD [T, .ty .str] = some (.bl true)) (e5 : m__law_sum_text [A] = .ok (T, .non)) (q1 : neD T T = some (.bl false)) (q2 : neD A A = some (.bl false)) (e6 : m__law_great_well [p2, A] = .ok (.bl true, p3))
    (e7 : m__law_well [A, .int (1 + c), T] = .ok (.bl true, .non)) (q3 : neD A (.lst []) = some (.bl b)) (e8 : b = true → m__law_mixed_up [A, p3] = .ok (T2, p4)) (e9 : b = true → m__law_well [A, .int (1 + c), T2] = .ok (.bl true, .non)) :
    ∃ ρ', ((sSeq (sSet 2 (eCall m__law_purse (aCons (eCall m__law_at (aCons (eVar 0) (aCons (eVar 1) aNil))) (aCons (eOp2 addD (eCon (.int 50)) (eVar 1)) aNil)))) (sSeq (sSet 3 (eOp2 addD (eCon (.int 1)) (eCallM m__law_take 0 2 (aHoleQ 2 (aCons (eCon (.int 6)) aNil))))) (sSeq (sSet 4 (eCallM m__law_sum 0 2 (aHoleQ 2 (aCons (eVar 3) (aCons (eCon (.int 9)) aNil))))) (sSeq (sSet 5 (eArg listD (aCons (eVar 4) aNil))) (sSeq (sSet 6 (eCall m_sum_text (aCons (eVar 5) aNil))) (sSeq (sIf (tOrF (tNotF (tVal (eArg isiD (aCons (eVar 6) (aCons (eCon (.ty .str)) aNil))))) (tOrF (tVal (eOp2 neD (eVar 6) (eCall m__law_sum_text (aCons (eVar 4) aNil)))) (tOrF (tVal (eOp2 neD (eVar 5) (eVar 4))) (tVal (eOp2 neD (eCall m_sum_text (aCons (eVar 5) aNil)) (eVar 6)))))) (sRet (eCon (.bl false))) sSkip) (sSeq (sIf (tOrF (tNotF (tVal (eCallM m__law_great_well 0 2 (aHoleQ 2 (aCons (eVar 4) aNil))))) (tNotF (tVal (eCall m__law_well (aCons (eVar 4) (aCons (eVar 3) (aCons (eVar 6) aNil))))))) (sRet (eCon (.bl false))) sSkip) (sIf (tAndF (tVal (eOp2 neD (eVar 4) (eLst aNil))) (tNotF (tVal (eCall m__law_well (aCons (eVar 4) (aCons (eVar 3) (aCons (eCallM m__law_mixed_up 1 2 (aCons (eVar 4) (aHoleQ 2 aNil))) aNil))))))) (sRet (eCon (.bl false))) sSkip))))))))) [some (.scr ns), some (.int k), y2, y3, y4, y5, y6] = .ok (.nx ρ') ∧ ∃ z2 z3 z4 z5 z6, ρ' = [some (.scr ns), some (.int k), z2, z3, z4, z5, z6] := by
  cases b with
  | true =>
    have e8 := e8 rfl
    have e9 := e9 rfl
    refine ⟨[some (.scr ns), some (.int k), some p4, some (.int (1 + c)), some A, some A, some T], ?_, _, _, _, _, _, rfl⟩
    simp (maxSteps := 4000000) (disch := first | assumption | decide | omega) only [runF, m0, sSeq, sSet, sIf, sRet, sRetN, sExpr, sSkip_ok, sSetA, sSetIx, sFor, sPar, sBind, sAug, eVar, eCon_ok, eOp2, eOp1, eCall, eCallM, eCallT, eTup, eLst, eArg, eIf, tVal, tNotF, tAndF, tOrF, eB, eAndF, eOrF, eNotF, eIxA, eIxO, eCatO, ixA_lst, ixA_tup, ixA_scr, eDNew, eDGet, eDGetO, eDPop, eSortK, eMM, aHoleQ, aHole, aNil_ok, aCons, oNone_ok, oSome, eSlice, eSliceL, iSeqA, iSeq, iRange, iArg, ePeek, tPeek, eOwnM, tYes_ok, bind_ok, bind_exc, bind_stuck, of_some, flatD, SW.gName, List.getD_cons_zero, List.getD_cons_succ, List.set_cons_zero, List.set_cons_succ, List.map_cons, List.map_nil, List.length_cons, List.length_nil, List.cons_append, List.nil_append, List.replicate, Nat.reduceAdd, Nat.reduceSub, addD_int, subD_int, negD_int, repD_int, modD_int, fdivD_int, ltA_int, leA_int, gtA_int, geA_int, eqD_int, neD_int, pow_10_18, pow_10_60, e0, e1, e2, e3, el, e4, is, e5, q1, q2, e6, e7, q3, e8, e9, if_true, Bool.not_true, Bool.false_eq_true, if_false, Option.getD_some]
  | false =>
    refine ⟨[some (.scr ns), some (.int k), some p3, some (.int (1 + c)), some A, some A, some T], ?_, _, _, _, _, _, rfl⟩
    simp (maxSteps := 4000000) (disch := first | assumption | decide | omega) only [runF, m0, sSeq, sSet, sIf, sRet, sRetN, sExpr, sSkip_ok, sSetA, sSetIx, sFor, sPar, sBind, sAug, eVar, eCon_ok, eOp2, eOp1, eCall, eCallM, eCallT, eTup, eLst, eArg, eIf, tVal, tNotF, tAndF, tOrF, eB, eAndF, eOrF, eNotF, eIxA, eIxO, eCatO, ixA_lst, ixA_tup, ixA_scr, eDNew, eDGet, eDGetO, eDPop, eSortK, eMM, aHoleQ, aHole, aNil_ok, aCons, oNone_ok, oSome, eSlice, eSliceL, iSeqA, iSeq, iRange, iArg, ePeek, tPeek, eOwnM, tYes_ok, bind_ok, bind_exc, bind_stuck, of_some, flatD, SW.gName, List.getD_cons_zero, List.getD_cons_succ, List.set_cons_zero, List.set_cons_succ, List.map_cons, List.map_nil, List.length_cons, List.length_nil, List.cons_append, List.nil_append, List.replicate, Nat.reduceAdd, Nat.reduceSub, addD_int, subD_int, negD_int, repD_int, modD_int, fdivD_int, ltA_int, leA_int, gtA_int, geA_int, eqD_int, neD_int, pow_10_18, pow_10_60, e0, e1, e2, e3, el, e4, is, e5, q1, q2, e6, e7, q3, if_true, Bool.not_true, Bool.false_eq_true, if_false, Option.getD_some]
theorem cell_ok (ns : List Int) (k : Nat) (hk : k < 8) (y2 y3 y4 y5 y6 : Option D) : ∃ ρ', ((sSeq (sSet 2 (eCall m__law_purse (aCons (eCall m__law_at (aCons (eVar 0) (aCons (eVar 1) aNil))) (aCons (eOp2 addD (eCon (.int 50)) (eVar 1)) aNil)))) (sSeq (sSet 3 (eOp2 addD (eCon (.int 1)) (eCallM m__law_take 0 2 (aHoleQ 2 (aCons (eCon (.int 6)) aNil))))) (sSeq (sSet 4 (eCallM m__law_sum 0 2 (aHoleQ 2 (aCons (eVar 3) (aCons (eCon (.int 9)) aNil))))) (sSeq (sSet 5 (eArg listD (aCons (eVar 4) aNil))) (sSeq (sSet 6 (eCall m_sum_text (aCons (eVar 5) aNil))) (sSeq (sIf (tOrF (tNotF (tVal (eArg isiD (aCons (eVar 6) (aCons (eCon (.ty .str)) aNil))))) (tOrF (tVal (eOp2 neD (eVar 6) (eCall m__law_sum_text (aCons (eVar 4) aNil)))) (tOrF (tVal (eOp2 neD (eVar 5) (eVar 4))) (tVal (eOp2 neD (eCall m_sum_text (aCons (eVar 5) aNil)) (eVar 6)))))) (sRet (eCon (.bl false))) sSkip) (sSeq (sIf (tOrF (tNotF (tVal (eCallM m__law_great_well 0 2 (aHoleQ 2 (aCons (eVar 4) aNil))))) (tNotF (tVal (eCall m__law_well (aCons (eVar 4) (aCons (eVar 3) (aCons (eVar 6) aNil))))))) (sRet (eCon (.bl false))) sSkip) (sIf (tAndF (tVal (eOp2 neD (eVar 4) (eLst aNil))) (tNotF (tVal (eCall m__law_well (aCons (eVar 4) (aCons (eVar 3) (aCons (eCallM m__law_mixed_up 1 2 (aCons (eVar 4) (aHoleQ 2 aNil))) aNil))))))) (sRet (eCon (.bl false))) sSkip))))))))) [some (.scr ns), some (.int ((k : Nat) : Int)), y2, y3, y4, y5, y6] = .ok (.nx ρ') ∧ ∃ z2 z3 z4 z5 z6, ρ' = [some (.scr ns), some (.int ((k : Nat) : Int)), z2, z3, z4, z5, z6] := by
  have big : (2 : Int) ^ 1000 > 1000 := by decide
  obtain ⟨i, e0⟩ := law_at_ok ns ((k : Nat) : Int) (by omega)
  obtain ⟨p, e1, hp⟩ := purse_ok i (50 + ((k : Nat) : Int)) (by omega) (by omega)
  obtain ⟨g, p1, e2, g0, g1, hp1⟩ := take_ok (n := 999000) (many := 6) (Ps.mono (by omega) hp) (by decide) (by decide)
  obtain ⟨c, rfl⟩ : ∃ c : Nat, g = ((c : Nat) : Int) := ⟨g.toNat, by omega⟩
  obtain ⟨l, p2, e3, hl, hp2⟩ := law_drawn_ok (n := 900000) (c := 1 + c) (many := 9) (by omega) (by omega) (by omega) (Ps.mono (by omega) hp1)
  have hc : ((1 + c : Nat) : Int) = 1 + ((c : Nat) : Int) := by omega
  rw [hc] at e3
  have hm := told_perm hl.gd.nd
  have hA : ∀ q ∈ toldT l, TW (1 + c) q := fun q hq => by
    have hq := hm.mem_iff.mp hq
    exact ⟨hl.wd q hq, hl.nb q hq, hl.gd.nz q hq⟩
  have hsm := hl.gd.told
  have hsz : (toldT l).length ≤ 9 := by rw [hm.length_eq]; exact hl.sz
  generalize toldT l = A at e3 hA hsm hsz
  have ht : ∀ q ∈ A, TB 9 q := fun q hq => (hA q hq).tb (by omega)
  have e4 := sum_text_ok (k := 9) (by decide) (by decide) ht (by omega)
  have e5 := law_sum_text_ok (k := 9) (by decide) (by decide) ht (by omega)
  have q1 := neT (sumTx_okT A) (sumTx_okT A)
  have q2 := ne_sums A A
  rw [decide_eq_true rfl] at q1 q2
  have q3 : neD (eSum.en A) (.lst []) = some (.bl (!decide (A = []))) := ne_sums A []
  obtain ⟨p3, e6, hp3⟩ := great_ok (n := 800000) ht (by omega) (Ps.mono (by omega) hp2)
  have R : ∀ B : SumT, B ≠ [] → B.Perm A → m_read_sum [.str (sT (joinX 32 (B.map termTx))), .int (1 + ((c : Nat) : Int))] = .ok (eSum.en A, .non) := fun B h0 hB => by
    have hn : (B.map (·.1)).Nodup := ((hB.map (·.1)).nodup_iff).mpr hsm.good.nd
    have gB : Good B := ⟨hn, fun q hq => hsm.good.nz q (hB.mem_iff.mp hq)⟩
    have r := read_join (c := 1 + c) (by omega) h0 (fun q hq => hA q (hB.mem_iff.mp hq)) hn (by rw [hB.length_eq]; omega)
    rw [hc, told_eq gB hsm.good (fun f => lin_perm hB), told_sm hsm] at r
    exact r
  have r1 : m_read_sum [.str (sT (sumTx A)), .int (1 + ((c : Nat) : Int))] = .ok (eSum.en A, .non) := by
    by_cases h0 : A = []
    · subst h0
      have := read_none (1 + c)
      rw [hc] at this
      exact this
    · have e : sumTx A = joinX 32 (A.map termTx) := if_neg h0
      rw [e]
      exact R A h0 (List.Perm.refl _)
  have hw := @well_ok A (.str (sT (sumTx A))) (1 + c) (by rw [hc]; exact r1) (by omega)
  rw [hc] at hw
  obtain ⟨B, p4, e8, hB, hp4⟩ := mixed_up_ok (n := 700000) ht (by omega) (Ps.mono (by omega) hp3)
  refine cell_w e0 e1 e2 e3 rfl e4 rfl e5 q1 q2 e6 hw q3 (fun _ => e8) fun hb => ?_
  have h0 : A ≠ [] := by simpa using hb
  have hw2 := @well_ok A (.str (sT (joinX 32 (B.map termTx)))) (1 + c) (by rw [hc]; exact R B (fun z => h0 (by subst z; exact hB.symm.eq_nil)) hB) (by omega)
  rw [hc] at hw2
  exact hw2
theorem law_true : ∀ ns : List Int, ns.length ≤ 63 → ∃ o, m_law [.scr ns] = .ok (.bl true, o) := by
  intro ns _
  obtain ⟨ρ', e, y1, y2, y3, y4, y5, y6, rfl⟩ := forL_fold (b := gName 1) (g := ((sSeq (sSet 2 (eCall m__law_purse (aCons (eCall m__law_at (aCons (eVar 0) (aCons (eVar 1) aNil))) (aCons (eOp2 addD (eCon (.int 50)) (eVar 1)) aNil)))) (sSeq (sSet 3 (eOp2 addD (eCon (.int 1)) (eCallM m__law_take 0 2 (aHoleQ 2 (aCons (eCon (.int 6)) aNil))))) (sSeq (sSet 4 (eCallM m__law_sum 0 2 (aHoleQ 2 (aCons (eVar 3) (aCons (eCon (.int 9)) aNil))))) (sSeq (sSet 5 (eArg listD (aCons (eVar 4) aNil))) (sSeq (sSet 6 (eCall m_sum_text (aCons (eVar 5) aNil))) (sSeq (sIf (tOrF (tNotF (tVal (eArg isiD (aCons (eVar 6) (aCons (eCon (.ty .str)) aNil))))) (tOrF (tVal (eOp2 neD (eVar 6) (eCall m__law_sum_text (aCons (eVar 4) aNil)))) (tOrF (tVal (eOp2 neD (eVar 5) (eVar 4))) (tVal (eOp2 neD (eCall m_sum_text (aCons (eVar 5) aNil)) (eVar 6)))))) (sRet (eCon (.bl false))) sSkip) (sSeq (sIf (tOrF (tNotF (tVal (eCallM m__law_great_well 0 2 (aHoleQ 2 (aCons (eVar 4) aNil))))) (tNotF (tVal (eCall m__law_well (aCons (eVar 4) (aCons (eVar 3) (aCons (eVar 6) aNil))))))) (sRet (eCon (.bl false))) sSkip) (sIf (tAndF (tVal (eOp2 neD (eVar 4) (eLst aNil))) (tNotF (tVal (eCall m__law_well (aCons (eVar 4) (aCons (eVar 3) (aCons (eCallM m__law_mixed_up 1 2 (aCons (eVar 4) (aHoleQ 2 aNil))) aNil))))))) (sRet (eCon (.bl false))) sSkip)))))))))) (f := fun i : Nat => D.int ((i : Nat) : Int)) (σ := Unit) (step := fun s _ => s) (St := fun _ ρ => ∃ y1 y2 y3 y4 y5 y6, ρ = [some (.scr ns), y1, y2, y3, y4, y5, y6]) (List.range 8) () [some (.scr ns), none, none, none, none, none, none] ⟨_, _, _, _, _, _, rfl⟩ (by
    rintro k hk _ ρ ⟨y1, y2, y3, y4, y5, y6, rfl⟩
    obtain ⟨ρ', e, z2, z3, z4, z5, z6, rfl⟩ := cell_ok ns k (List.mem_range.mp hk) y2 y3 y4 y5 y6
    exact ⟨[some (.scr ns), some (.int ((k : Nat) : Int)), y2, y3, y4, y5, y6], _, rfl, e, _, _, _, _, _, _, rfl⟩)
  have hr := rangeD1 (j := 8) (by decide) (by decide)
  have ht : ((8 : Int)).toNat = 8 := rfl
  rw [ht] at hr
  have r0 := read_none 1
  have w0 := @well_ok [] (.str (sT [48])) 1 r0 (by simp)
  have c1 : ((1 : Nat) : Int) = 1 := rfl
  have en : eSum.en [] = .lst [] := rfl
  rw [c1, en] at w0
  exact ⟨.non, by simp (disch := first | assumption | decide | omega) only [m_law, b_law, runF, m0, sSeq, sSet, sIf, sRet, sRetN, sExpr, sSkip_ok, sSetA, sSetIx, sFor, sPar, sBind, sAug, eVar, eCon_ok, eOp2, eOp1, eCall, eCallM, eCallT, eTup, eLst, eArg, eIf, tVal, tNotF, tAndF, tOrF, eB, eAndF, eOrF, eNotF, eIxA, eIxO, eCatO, ixA_lst, ixA_tup, ixA_scr, eDNew, eDGet, eDGetO, eDPop, eSortK, eMM, aHoleQ, aHole, aNil_ok, aCons, oNone_ok, oSome, eSlice, eSliceL, iSeqA, iSeq, iRange, iArg, ePeek, tPeek, eOwnM, tYes_ok, bind_ok, bind_exc, bind_stuck, of_some, flatD, SW.gName, List.getD_cons_zero, List.getD_cons_succ, List.set_cons_zero, List.set_cons_succ, List.map_cons, List.map_nil, List.length_cons, List.length_nil, List.cons_append, List.nil_append, List.replicate, Nat.reduceAdd, Nat.reduceSub, addD_int, subD_int, negD_int, repD_int, modD_int, fdivD_int, ltA_int, leA_int, gtA_int, geA_int, eqD_int, neD_int, pow_10_18, pow_10_60, hr, e, l_zero, w0]⟩

end Lw

set_option maxRecDepth 100000
set_option maxHeartbeats 0
namespace Lw
open PySem PySem.Spec PyProof.Rows L2 SW

theorem sc_figures_in : FnScope nn_figures_in ["text"] (defScope s_figures_in) := ⟨rfl, rfl, rfl, by decide +kernel, rfl, by decide +kernel, by decide +kernel⟩

theorem sc_whole_in : FnScope nn_whole_in ["text"] (defScope s_whole_in) := ⟨rfl, rfl, rfl, by decide +kernel, rfl, by decide +kernel, by decide +kernel⟩

theorem sc_is_whole : FnScope nn_is_whole ["one"] (defScope s_is_whole) := ⟨rfl, rfl, rfl, by decide +kernel, rfl, by decide +kernel, by decide +kernel⟩

theorem sc_divisor : FnScope nn_divisor ["one", "other"] (defScope s_divisor) := ⟨rfl, rfl, rfl, by decide +kernel, rfl, by decide +kernel, by decide +kernel⟩

theorem sc_is_number : FnScope nn_is_number ["one"] (defScope s_is_number) := ⟨rfl, rfl, rfl, by decide +kernel, rfl, by decide +kernel, by decide +kernel⟩

theorem sc_number_in : FnScope nn_number_in ["text"] (defScope s_number_in) := ⟨rfl, rfl, rfl, by decide +kernel, rfl, by decide +kernel, by decide +kernel⟩

theorem sc_way_in : FnScope nn_way_in ["text", "count"] (defScope s_way_in) := ⟨rfl, rfl, rfl, by decide +kernel, rfl, by decide +kernel, by decide +kernel⟩

theorem sc_word_in : FnScope nn_word_in ["text", "count"] (defScope s_word_in) := ⟨rfl, rfl, rfl, by decide +kernel, rfl, by decide +kernel, by decide +kernel⟩

theorem sc_rank : FnScope nn_rank ["word"] (defScope s_rank) := ⟨rfl, rfl, rfl, by decide +kernel, rfl, by decide +kernel, by decide +kernel⟩

theorem sc_read_sum : FnScope nn_read_sum ["text", "count"] (defScope s_read_sum) := ⟨rfl, rfl, rfl, by decide +kernel, rfl, by decide +kernel, by decide +kernel⟩

theorem sc__law_well : FnScope nn__law_well ["_law_total", "_law_count", "_law_text"] (defScope s__law_well) := ⟨rfl, rfl, rfl, by decide +kernel, rfl, by decide +kernel, by decide +kernel⟩

theorem sc__law_mixed : FnScope nn__law_mixed ["_law_cell", "_law_k"] (defScope s__law_mixed) := ⟨rfl, rfl, rfl, by decide +kernel, rfl, by decide +kernel, by decide +kernel⟩

theorem sc__law_purse : FnScope nn__law_purse ["_law_cell", "_law_k"] (defScope s__law_purse) := ⟨rfl, rfl, rfl, by decide +kernel, rfl, by decide +kernel, by decide +kernel⟩

theorem sc__law_take : FnScope nn__law_take ["_law_purse_here", "_law_many"] (defScope s__law_take) := ⟨rfl, rfl, rfl, by decide +kernel, rfl, by decide +kernel, by decide +kernel⟩

theorem sc__law_low : FnScope nn__law_low ["_law_top", "_law_bottom"] (defScope s__law_low) := ⟨rfl, rfl, rfl, by decide +kernel, rfl, by decide +kernel, by decide +kernel⟩

theorem sc__law_nine : FnScope nn__law_nine ["_law_purse_here"] (defScope s__law_nine) := ⟨rfl, rfl, rfl, by decide +kernel, rfl, by decide +kernel, by decide +kernel⟩

theorem sc__law_rank : FnScope nn__law_rank ["_law_word"] (defScope s__law_rank) := ⟨rfl, rfl, rfl, by decide +kernel, rfl, by decide +kernel, by decide +kernel⟩

theorem sc__law_sum : FnScope nn__law_sum ["_law_purse_here", "_law_count", "_law_most"] (defScope s__law_sum) := ⟨rfl, rfl, rfl, by decide +kernel, rfl, by decide +kernel, by decide +kernel⟩

theorem sc_word_text : FnScope nn_word_text ["word"] (defScope s_word_text) := ⟨rfl, rfl, rfl, by decide +kernel, rfl, by decide +kernel, by decide +kernel⟩

theorem sc_number_text : FnScope nn_number_text ["number"] (defScope s_number_text) := ⟨rfl, rfl, rfl, by decide +kernel, rfl, by decide +kernel, by decide +kernel⟩

theorem sc_sum_text : FnScope nn_sum_text ["total"] (defScope s_sum_text) := ⟨rfl, rfl, rfl, by decide +kernel, rfl, by decide +kernel, by decide +kernel⟩

theorem sc__law_at : FnScope nn__law_at ["_law_script", "_law_k"] (defScope s__law_at) := ⟨rfl, rfl, rfl, by decide +kernel, rfl, by decide +kernel, by decide +kernel⟩

theorem sc__law_word_text : FnScope nn__law_word_text ["_law_word"] (defScope s__law_word_text) := ⟨rfl, rfl, rfl, by decide +kernel, rfl, by decide +kernel, by decide +kernel⟩

theorem sc__law_number_text : FnScope nn__law_number_text ["_law_number"] (defScope s__law_number_text) := ⟨rfl, rfl, rfl, by decide +kernel, rfl, by decide +kernel, by decide +kernel⟩

theorem sc__law_sum_text : FnScope nn__law_sum_text ["_law_total"] (defScope s__law_sum_text) := ⟨rfl, rfl, rfl, by decide +kernel, rfl, by decide +kernel, by decide +kernel⟩

theorem sc__law_word_rank : FnScope nn__law_word_rank ["_law_term"] (defScope s__law_word_rank) := ⟨rfl, rfl, rfl, by decide +kernel, rfl, by decide +kernel, by decide +kernel⟩

theorem sc__law_great_well : FnScope nn__law_great_well ["_law_purse_here", "_law_total"] (defScope s__law_great_well) := ⟨rfl, rfl, rfl, by decide +kernel, rfl, by decide +kernel, by decide +kernel⟩

theorem sc__law_mixed_up : FnScope nn__law_mixed_up ["_law_total", "_law_purse_here"] (defScope s__law_mixed_up) := ⟨rfl, rfl, rfl, by decide +kernel, rfl, by decide +kernel, by decide +kernel⟩

theorem sc_law : FnScope nn_law ["_law_script"] (defScope s_law) := ⟨rfl, rfl, rfl, by decide +kernel, rfl, by decide +kernel, by decide +kernel⟩

structure Txt (P : Program) (K : PySem.W.Frag) (mg : Str → Option Value) where
  seer : seerB K = true
  tree : P.given.tree = none

  a_figures_in : Addr
  d_figures_in : FuncData
  F_figures_in : Fun K "figures_in" "figures_in" s_figures_in a_figures_in d_figures_in
  g_figures_in : mg "figures_in" = some (.ref a_figures_in)
  k_figures_in : PySem.W.keepIn K (.ref a_figures_in) = true
  b_figures_in : L2.Binds K d_figures_in ["text"] []

  a_whole_in : Addr
  d_whole_in : FuncData
  F_whole_in : Fun K "whole_in" "whole_in" s_whole_in a_whole_in d_whole_in
  g_whole_in : mg "whole_in" = some (.ref a_whole_in)
  k_whole_in : PySem.W.keepIn K (.ref a_whole_in) = true
  b_whole_in : L2.Binds K d_whole_in ["text"] []

  a_is_whole : Addr
  d_is_whole : FuncData
  F_is_whole : Fun K "is_whole" "is_whole" s_is_whole a_is_whole d_is_whole
  g_is_whole : mg "is_whole" = some (.ref a_is_whole)
  k_is_whole : PySem.W.keepIn K (.ref a_is_whole) = true
  b_is_whole : L2.Binds K d_is_whole ["one"] []

  a_divisor : Addr
  d_divisor : FuncData
  F_divisor : Fun K "divisor" "divisor" s_divisor a_divisor d_divisor
  g_divisor : mg "divisor" = some (.ref a_divisor)
  k_divisor : PySem.W.keepIn K (.ref a_divisor) = true
  b_divisor : L2.Binds K d_divisor ["one", "other"] []

  a_is_number : Addr
  d_is_number : FuncData
  F_is_number : Fun K "is_number" "is_number" s_is_number a_is_number d_is_number
  g_is_number : mg "is_number" = some (.ref a_is_number)
  k_is_number : PySem.W.keepIn K (.ref a_is_number) = true
  b_is_number : L2.Binds K d_is_number ["one"] []

  a_number_in : Addr
  d_number_in : FuncData
  F_number_in : Fun K "number_in" "number_in" s_number_in a_number_in d_number_in
  g_number_in : mg "number_in" = some (.ref a_number_in)
  k_number_in : PySem.W.keepIn K (.ref a_number_in) = true
  b_number_in : L2.Binds K d_number_in ["text"] []

  a_way_in : Addr
  d_way_in : FuncData
  F_way_in : Fun K "way_in" "way_in" s_way_in a_way_in d_way_in
  g_way_in : mg "way_in" = some (.ref a_way_in)
  k_way_in : PySem.W.keepIn K (.ref a_way_in) = true
  b_way_in : L2.Binds K d_way_in ["text", "count"] []

  a_word_in : Addr
  d_word_in : FuncData
  F_word_in : Fun K "word_in" "word_in" s_word_in a_word_in d_word_in
  g_word_in : mg "word_in" = some (.ref a_word_in)
  k_word_in : PySem.W.keepIn K (.ref a_word_in) = true
  b_word_in : L2.Binds K d_word_in ["text", "count"] []

  a_rank : Addr
  d_rank : FuncData
  F_rank : Fun K "rank" "rank" s_rank a_rank d_rank
  g_rank : mg "rank" = some (.ref a_rank)
  k_rank : PySem.W.keepIn K (.ref a_rank) = true
  b_rank : L2.Binds K d_rank ["word"] []

  a_read_sum : Addr
  d_read_sum : FuncData
  F_read_sum : Fun K "read_sum" "read_sum" s_read_sum a_read_sum d_read_sum
  g_read_sum : mg "read_sum" = some (.ref a_read_sum)
  k_read_sum : PySem.W.keepIn K (.ref a_read_sum) = true
  b_read_sum : L2.Binds K d_read_sum ["text", "count"] []

  a__law_well : Addr
  d__law_well : FuncData
  F__law_well : Fun K "_law_well" "_law_well" s__law_well a__law_well d__law_well
  g__law_well : mg "_law_well" = some (.ref a__law_well)
  k__law_well : PySem.W.keepIn K (.ref a__law_well) = true
  b__law_well : L2.Binds K d__law_well ["_law_total", "_law_count", "_law_text"] []

  a__law_mixed : Addr
  d__law_mixed : FuncData
  F__law_mixed : Fun K "_law_mixed" "_law_mixed" s__law_mixed a__law_mixed d__law_mixed
  g__law_mixed : mg "_law_mixed" = some (.ref a__law_mixed)
  k__law_mixed : PySem.W.keepIn K (.ref a__law_mixed) = true
  b__law_mixed : L2.Binds K d__law_mixed ["_law_cell", "_law_k"] []

  a__law_purse : Addr
  d__law_purse : FuncData
  F__law_purse : Fun K "_law_purse" "_law_purse" s__law_purse a__law_purse d__law_purse
  g__law_purse : mg "_law_purse" = some (.ref a__law_purse)
  k__law_purse : PySem.W.keepIn K (.ref a__law_purse) = true
  b__law_purse : L2.Binds K d__law_purse ["_law_cell", "_law_k"] []

  a__law_take : Addr
  d__law_take : FuncData
  F__law_take : Fun K "_law_take" "_law_take" s__law_take a__law_take d__law_take
  g__law_take : mg "_law_take" = some (.ref a__law_take)
  k__law_take : PySem.W.keepIn K (.ref a__law_take) = true
  b__law_take : L2.Binds K d__law_take ["_law_purse_here", "_law_many"] []

  a__law_low : Addr
  d__law_low : FuncData
  F__law_low : Fun K "_law_low" "_law_low" s__law_low a__law_low d__law_low
  g__law_low : mg "_law_low" = some (.ref a__law_low)
  k__law_low : PySem.W.keepIn K (.ref a__law_low) = true
  b__law_low : L2.Binds K d__law_low ["_law_top", "_law_bottom"] []

  a__law_nine : Addr
  d__law_nine : FuncData
  F__law_nine : Fun K "_law_nine" "_law_nine" s__law_nine a__law_nine d__law_nine
  g__law_nine : mg "_law_nine" = some (.ref a__law_nine)
  k__law_nine : PySem.W.keepIn K (.ref a__law_nine) = true
  b__law_nine : L2.Binds K d__law_nine ["_law_purse_here"] []

  a__law_rank : Addr
  d__law_rank : FuncData
  F__law_rank : Fun K "_law_rank" "_law_rank" s__law_rank a__law_rank d__law_rank
  g__law_rank : mg "_law_rank" = some (.ref a__law_rank)
  k__law_rank : PySem.W.keepIn K (.ref a__law_rank) = true
  b__law_rank : L2.Binds K d__law_rank ["_law_word"] []

  a__law_sum : Addr
  d__law_sum : FuncData
  F__law_sum : Fun K "_law_sum" "_law_sum" s__law_sum a__law_sum d__law_sum
  g__law_sum : mg "_law_sum" = some (.ref a__law_sum)
  k__law_sum : PySem.W.keepIn K (.ref a__law_sum) = true
  b__law_sum : L2.Binds K d__law_sum ["_law_purse_here", "_law_count", "_law_most"] []

  a_word_text : Addr
  d_word_text : FuncData
  F_word_text : Fun K "word_text" "word_text" s_word_text a_word_text d_word_text
  g_word_text : mg "word_text" = some (.ref a_word_text)
  k_word_text : PySem.W.keepIn K (.ref a_word_text) = true
  b_word_text : L2.Binds K d_word_text ["word"] []

  a_number_text : Addr
  d_number_text : FuncData
  F_number_text : Fun K "number_text" "number_text" s_number_text a_number_text d_number_text
  g_number_text : mg "number_text" = some (.ref a_number_text)
  k_number_text : PySem.W.keepIn K (.ref a_number_text) = true
  b_number_text : L2.Binds K d_number_text ["number"] []

  a_sum_text : Addr
  d_sum_text : FuncData
  F_sum_text : Fun K "sum_text" "sum_text" s_sum_text a_sum_text d_sum_text
  g_sum_text : mg "sum_text" = some (.ref a_sum_text)
  k_sum_text : PySem.W.keepIn K (.ref a_sum_text) = true
  b_sum_text : L2.Binds K d_sum_text ["total"] []

  a__law_at : Addr
  d__law_at : FuncData
  F__law_at : Fun K "_law_at" "_law_at" s__law_at a__law_at d__law_at
  g__law_at : mg "_law_at" = some (.ref a__law_at)
  k__law_at : PySem.W.keepIn K (.ref a__law_at) = true
  b__law_at : L2.Binds K d__law_at ["_law_script", "_law_k"] []

  a__law_word_text : Addr
  d__law_word_text : FuncData
  F__law_word_text : Fun K "_law_word_text" "_law_word_text" s__law_word_text a__law_word_text d__law_word_text
  g__law_word_text : mg "_law_word_text" = some (.ref a__law_word_text)
  k__law_word_text : PySem.W.keepIn K (.ref a__law_word_text) = true
  b__law_word_text : L2.Binds K d__law_word_text ["_law_word"] []

  a__law_number_text : Addr
  d__law_number_text : FuncData
  F__law_number_text : Fun K "_law_number_text" "_law_number_text" s__law_number_text a__law_number_text d__law_number_text
  g__law_number_text : mg "_law_number_text" = some (.ref a__law_number_text)
  k__law_number_text : PySem.W.keepIn K (.ref a__law_number_text) = true
  b__law_number_text : L2.Binds K d__law_number_text ["_law_number"] []

  a__law_sum_text : Addr
  d__law_sum_text : FuncData
  F__law_sum_text : Fun K "_law_sum_text" "_law_sum_text" s__law_sum_text a__law_sum_text d__law_sum_text
  g__law_sum_text : mg "_law_sum_text" = some (.ref a__law_sum_text)
  k__law_sum_text : PySem.W.keepIn K (.ref a__law_sum_text) = true
  b__law_sum_text : L2.Binds K d__law_sum_text ["_law_total"] []

  a__law_word_rank : Addr
  d__law_word_rank : FuncData
  F__law_word_rank : Fun K "_law_word_rank" "_law_word_rank" s__law_word_rank a__law_word_rank d__law_word_rank
  g__law_word_rank : mg "_law_word_rank" = some (.ref a__law_word_rank)
  k__law_word_rank : PySem.W.keepIn K (.ref a__law_word_rank) = true
  b__law_word_rank : L2.Binds K d__law_word_rank ["_law_term"] []

  a__law_great_well : Addr
  d__law_great_well : FuncData
  F__law_great_well : Fun K "_law_great_well" "_law_great_well" s__law_great_well a__law_great_well d__law_great_well
  g__law_great_well : mg "_law_great_well" = some (.ref a__law_great_well)
  k__law_great_well : PySem.W.keepIn K (.ref a__law_great_well) = true
  b__law_great_well : L2.Binds K d__law_great_well ["_law_purse_here", "_law_total"] []

  a__law_mixed_up : Addr
  d__law_mixed_up : FuncData
  F__law_mixed_up : Fun K "_law_mixed_up" "_law_mixed_up" s__law_mixed_up a__law_mixed_up d__law_mixed_up
  g__law_mixed_up : mg "_law_mixed_up" = some (.ref a__law_mixed_up)
  k__law_mixed_up : PySem.W.keepIn K (.ref a__law_mixed_up) = true
  b__law_mixed_up : L2.Binds K d__law_mixed_up ["_law_total", "_law_purse_here"] []

  a_law : Addr
  d_law : FuncData
  F_law : Fun K "law" "law" s_law a_law d_law
  g_law : mg "law" = some (.ref a_law)
  k_law : PySem.W.keepIn K (.ref a_law) = true
  b_law : L2.Binds K d_law ["_law_script"] []

  z_abs : mg "abs" = none

  z_bool : mg "bool" = none

  z_enumerate : mg "enumerate" = none

  z_int : mg "int" = none

  z_isinstance : mg "isinstance" = none

  z_len : mg "len" = none

  z_list : mg "list" = none

  z_range : mg "range" = none

  z_sorted : mg "sorted" = none

  z_str : mg "str" = none

  z_tuple : mg "tuple" = none

  c_FIGURES : Konst K mg "FIGURES" k_FIGURES

  c_MOST_FIGURES : Konst K mg "MOST_FIGURES" k_MOST_FIGURES

  c_MOST_WAYS : Konst K mg "MOST_WAYS" k_MOST_WAYS

section
variable {P : Program} {w : World} {K : PySem.W.Frag} {mg : Str → Option Value} {base : Heap}

theorem ok_figures_in (T : Txt P K mg) : FnOk P w K mg base (L2.CX P w) 34 T.a_figures_in T.d_figures_in ["text"] (spec K mg 1 none false m_figures_in) := by
  refine @fn_by P w K mg base "figures_in" "figures_in" s_figures_in T.a_figures_in T.d_figures_in nn_figures_in ["text"] 33 1 none false b_figures_in [false, false] [false, false] T.F_figures_in sc_figures_in rfl (fun _ => rfl) (os_ok rfl) rfl (.inl rfl) (fun cdv A outer s H E hr X eX tk hp => ?_)
  subst eX
  unfold b_figures_in
  exact (vss_cons (vs_if (VW.vt (vw_or (vt_cmp (o_eq (hr.units)) (ve_var 0) ve_str) (vw_or (vt_cmp (o_gtA (hr.units)) (ve_callB c_lenA (va_cons (ve_var 0) va_nil) T.z_len bt_len) (ve_konst T.c_MOST_FIGURES)) (vw_or1 (vt_cmp (o_ne (hr.units)) (VE.fz (ve_lc (own := [("sign", 1)]) (blkOk_by (N := nn_figures_in) (sc := defScope s_figures_in) (by decide +kernel)) (vi_signs (ve_var 0)) (fun _ _ _ _ _ => (vg_name 1 sc_figures_in.nd)) (fun _ _ _ _ _ => (vts_one (vt_cmp (o_notInS) (ve_var 1) (ve_konst T.c_FIGURES)))) (fun _ _ _ _ _ => (ve_var 1)) sc_figures_in.nd)) (VE.fz (ve_lstO va_nil))))))) (vss_one (vs_ret ve_non)) vss_nil) (vss_cons (vs_if (VW.vt (vw_and (vt_cmp (o_eq (hr.units)) (ve_ixA (hr.units) (ve_var 0) ve_int) ve_str) (vw_and1 (vt_cmp (o_ne (hr.units)) (ve_var 0) ve_str)))) (vss_one (vs_ret ve_non)) vss_nil) (vss_one (vs_ret (ve_callTy c_intS (va_cons (ve_var 0) va_nil) T.z_int bt_int)))))

theorem ok_whole_in (T : Txt P K mg) : FnOk P w K mg base (L2.CX P w) 35 T.a_whole_in T.d_whole_in ["text"] (spec K mg 1 none false m_whole_in) := by
  refine @fn_by P w K mg base "whole_in" "whole_in" s_whole_in T.a_whole_in T.d_whole_in nn_whole_in ["text"] 34 1 none false b_whole_in [false, false] [false, false] T.F_whole_in sc_whole_in rfl (fun _ => rfl) (os_ok rfl) rfl (.inl rfl) (fun cdv A outer s H E hr X eX tk hp => ?_)
  subst eX
  unfold b_whole_in
  exact (vss_cons (vs_if (vt_cmp (o_eq (hr.units)) (ve_sliceS (ve_var 0) vo_none (vo_some ve_int)) ve_str) (vss_cons (vs_set 1 (ve_call (ok_figures_in T) tk (hr.mono (by decide)) T.g_figures_in T.k_figures_in T.b_figures_in (va_cons (ve_sliceS (ve_var 0) (vo_some ve_int) vo_none) va_nil)) sc_whole_in.nd) (vss_cons (vs_if (VW.vt (vw_or (vt_cmp (o_is) (ve_var 1) ve_non) (vw_or1 (vt_cmp (o_eq (hr.units)) (ve_var 1) ve_int)))) (vss_one (vs_ret ve_non)) vss_nil) (vss_one (vs_ret (ve_bin o_sub ve_int (ve_var 1)))))) vss_nil) (vss_one (vs_ret (ve_call (ok_figures_in T) tk (hr.mono (by decide)) T.g_figures_in T.k_figures_in T.b_figures_in (va_cons (ve_var 0) va_nil)))))

theorem ok_is_whole (T : Txt P K mg) : FnOk P w K mg base (L2.CX P w) 34 T.a_is_whole T.d_is_whole ["one"] (spec K mg 1 none false m_is_whole) := by
  refine @fn_by P w K mg base "is_whole" "is_whole" s_is_whole T.a_is_whole T.d_is_whole nn_is_whole ["one"] 33 1 none false b_is_whole [false] [false] T.F_is_whole sc_is_whole rfl (fun _ => rfl) (os_ok rfl) rfl (.inl rfl) (fun cdv A outer s H E hr X eX tk hp => ?_)
  subst eX
  unfold b_is_whole
  exact (vss_one (vs_ret (ve_and (ve_callB c_isi (va_cons (ve_var 0) (va_cons (ve_ty (T := .int) T.z_int bt_int) va_nil)) T.z_isinstance bt_isinstance) (ve_one (ve_not (ve_callB c_isi (va_cons (ve_var 0) (va_cons (ve_ty (T := .bool) T.z_bool bt_bool) va_nil)) T.z_isinstance bt_isinstance))))))

theorem ok_divisor (T : Txt P K mg) : FnOk P w K mg base (L2.CX P w) 34 T.a_divisor T.d_divisor ["one", "other"] (spec K mg 2 none false m_divisor) := by
  refine @fn_by P w K mg base "divisor" "divisor" s_divisor T.a_divisor T.d_divisor nn_divisor ["one", "other"] 33 2 none false b_divisor [false, false] [false, false] T.F_divisor sc_divisor rfl (fun _ => rfl) (os_ok rfl) rfl (.inl rfl) (fun cdv A outer s H E hr X eX tk hp => ?_)
  subst eX
  unfold b_divisor
  exact (vss_cons (vs_set 0 (ve_callB c_abs (va_cons (ve_var 0) va_nil) T.z_abs bt_abs) sc_divisor.nd) (vss_cons (vs_set 1 (ve_callB c_abs (va_cons (ve_var 1) va_nil) T.z_abs bt_abs) sc_divisor.nd) (vss_cons (vs_while (fuel := (fuelInt 1)) hp (vt_cmp (o_ne (hr.units)) (ve_var 1) ve_int) (vss_one (vs_par 0 1 (va_cons (ve_var 1) (va_cons (ve_bin o_mod (ve_var 0) (ve_var 1)) va_nil)) sc_divisor.nd))) (vss_one (vs_ret (ve_var 0))))))

theorem ok_is_number (T : Txt P K mg) : FnOk P w K mg base (L2.CX P w) 35 T.a_is_number T.d_is_number ["one"] (spec K mg 1 none false m_is_number) := by
  refine @fn_by P w K mg base "is_number" "is_number" s_is_number T.a_is_number T.d_is_number nn_is_number ["one"] 34 1 none false b_is_number [false] [false] T.F_is_number sc_is_number rfl (fun _ => rfl) (os_ok rfl) rfl (.inl rfl) (fun cdv A outer s H E hr X eX tk hp => ?_)
  subst eX
  unfold b_is_number
  exact (vss_cons (vs_if (VW.vt (vw_or (vt_not (vt_val (ve_callB c_isi (va_cons (ve_var 0) (va_cons (ve_ty (T := .tuple) T.z_tuple bt_tuple) va_nil)) T.z_isinstance bt_isinstance))) (vw_or1 (vt_cmp (o_ne (hr.units)) (ve_callB c_lenA (va_cons (ve_var 0) va_nil) T.z_len bt_len) ve_int)))) (vss_one (vs_ret ve_bl)) vss_nil) (vss_cons (vs_if (VW.vt (vw_or (vt_not (vt_val (ve_call (ok_is_whole T) tk (hr.mono (by decide)) T.g_is_whole T.k_is_whole T.b_is_whole (va_cons (ve_ixA (hr.units) (ve_var 0) ve_int) va_nil)))) (vw_or1 (vt_not (vt_val (ve_call (ok_is_whole T) tk (hr.mono (by decide)) T.g_is_whole T.k_is_whole T.b_is_whole (va_cons (ve_ixA (hr.units) (ve_var 0) ve_int) va_nil))))))) (vss_one (vs_ret ve_bl)) vss_nil) (vss_one (vs_ret (ve_and (ve_cmp (o_geA (hr.units)) (ve_ixA (hr.units) (ve_var 0) ve_int) ve_int) (ve_one (ve_cmp (o_eq (hr.units)) (ve_call (ok_divisor T) tk (hr.mono (by decide)) T.g_divisor T.k_divisor T.b_divisor (va_cons (ve_ixA (hr.units) (ve_var 0) ve_int) (va_cons (ve_ixA (hr.units) (ve_var 0) ve_int) va_nil))) ve_int)))))))

theorem ok_number_in (T : Txt P K mg) : FnOk P w K mg base (L2.CX P w) 36 T.a_number_in T.d_number_in ["text"] (spec K mg 1 none false m_number_in) := by
  refine @fn_by P w K mg base "number_in" "number_in" s_number_in T.a_number_in T.d_number_in nn_number_in ["text"] 35 1 none false b_number_in [false, false, false, false, false, false] [false, false, false, false, false, false] T.F_number_in sc_number_in rfl (fun _ => rfl) (os_ok rfl) rfl (.inl rfl) (fun cdv A outer s H E hr X eX tk hp => ?_)
  subst eX
  unfold b_number_in
  exact (vss_cons (vs_bind (ve_tm tm_part PySem.F.slot_str_partition PySem.F.type_str_partition (ve_var 0) ve_str) (vg_tup (vgs_cons (vg_name 3 sc_number_in.nd) (vgs_cons (vg_name 4 sc_number_in.nd) (vgs_cons (vg_name 5 sc_number_in.nd) vgs_nil))))) (vss_cons (vs_set 1 (ve_call (ok_whole_in T) tk (hr.mono (by decide)) T.g_whole_in T.k_whole_in T.b_whole_in (va_cons (ve_var 3) va_nil)) sc_number_in.nd) (vss_cons (vs_set 2 ve_int sc_number_in.nd) (vss_cons (vs_if (vt_cmp (o_eq (hr.units)) (ve_var 4) ve_str) (vss_cons (vs_set 2 (ve_call (ok_figures_in T) tk (hr.mono (by decide)) T.g_figures_in T.k_figures_in T.b_figures_in (va_cons (ve_var 5) va_nil)) sc_number_in.nd) (vss_one (vs_if (VW.vt (vw_or (vt_cmp (o_is) (ve_var 2) ve_non) (vw_or1 (vt_cmp (o_ltA (hr.units)) (ve_var 2) ve_int)))) (vss_one (vs_ret ve_non)) vss_nil))) vss_nil) (vss_cons (vs_if (VW.vt (vw_or (vt_cmp (o_is) (ve_var 1) ve_non) (vw_or1 (vt_not (vt_val (ve_call (ok_is_number T) tk (hr.mono (by decide)) T.g_is_number T.k_is_number T.b_is_number (va_cons (ve_tup (va_cons (ve_var 1) (va_cons (ve_var 2) va_nil))) va_nil))))))) (vss_one (vs_ret ve_non)) vss_nil) (vss_one (vs_ret (ve_tup (va_cons (ve_var 1) (va_cons (ve_var 2) va_nil))))))))))

theorem ok_way_in (T : Txt P K mg) : FnOk P w K mg base (L2.CX P w) 35 T.a_way_in T.d_way_in ["text", "count"] (spec K mg 2 none false m_way_in) := by
  refine @fn_by P w K mg base "way_in" "way_in" s_way_in T.a_way_in T.d_way_in nn_way_in ["text", "count"] 34 2 none false b_way_in [false, false, false] [false, false, false] T.F_way_in sc_way_in rfl (fun _ => rfl) (os_ok rfl) rfl (.inl rfl) (fun cdv A outer s H E hr X eX tk hp => ?_)
  subst eX
  unfold b_way_in
  exact (vss_cons (vs_set 2 (ve_call (ok_figures_in T) tk (hr.mono (by decide)) T.g_figures_in T.k_figures_in T.b_figures_in (va_cons (ve_var 0) va_nil)) sc_way_in.nd) (vss_cons (vs_if (VW.vt (vw_or (vt_cmp (o_is) (ve_var 2) ve_non) (vw_or1 (vt_cmp (o_geA (hr.units)) (ve_var 2) (ve_var 1))))) (vss_one (vs_ret ve_non)) vss_nil) (vss_one (vs_ret (ve_var 2)))))

theorem ok_word_in (T : Txt P K mg) : FnOk P w K mg base (L2.CX P w) 36 T.a_word_in T.d_word_in ["text", "count"] (spec K mg 2 none false m_word_in) := by
  refine @fn_by P w K mg base "word_in" "word_in" s_word_in T.a_word_in T.d_word_in nn_word_in ["text", "count"] 35 2 none false b_word_in [false, false, false, false] [false, false, false, false] T.F_word_in sc_word_in rfl (fun _ => rfl) (os_ok rfl) rfl (.inl rfl) (fun cdv A outer s H E hr X eX tk hp => ?_)
  subst eX
  unfold b_word_in
  exact (vss_cons (vs_if (vt_cmp (o_eq (hr.units)) (ve_var 0) ve_str) (vss_one (vs_ret (ve_tup va_nil))) vss_nil) (vss_cons (VS.fz 2 (vs_setLc 2 (own := [("one", 3)]) (blkOk_by (N := nn_word_in) (sc := defScope s_word_in) (by decide +kernel)) (vi_seqA (VE.fz (ve_tm tm_split PySem.F.slot_str_split PySem.F.type_str_split (ve_var 0) ve_str))) (fun _ _ _ _ _ => (vg_name 3 sc_word_in.nd)) (fun _ _ _ _ _ => vts_nil) (fun _ _ _ _ _ => (ve_call (ok_way_in T) takes0 (hr.mono (by decide)) T.g_way_in T.k_way_in T.b_way_in (va_cons (ve_var 3) (va_cons (ve_var 1) va_nil)))) sc_word_in.nd (by rfl))) (vss_cons (vs_if (VW.vt (vw_or (vt_cmp (o_inA (hu65 hr)) ve_non (ve_var 2)) (vw_or1 (vt_cmp (o_gtA (hr.units)) (ve_callB c_lenA (va_cons (ve_var 2) va_nil) T.z_len bt_len) (ve_konst T.c_MOST_WAYS))))) (vss_one (vs_ret ve_non)) vss_nil) (vss_one (vs_ret (ve_callTy c_tuple (va_cons (ve_var 2) va_nil) T.z_tuple bt_tuple))))))

theorem ok_rank (T : Txt P K mg) : FnOk P w K mg base (L2.CX P w) 34 T.a_rank T.d_rank ["word"] (spec K mg 1 none false m_rank) := by
  refine @fn_by P w K mg base "rank" "rank" s_rank T.a_rank T.d_rank nn_rank ["word"] 33 1 none false b_rank [false] [false] T.F_rank sc_rank rfl (fun _ => rfl) (os_ok rfl) rfl (.inl rfl) (fun cdv A outer s H E hr X eX tk hp => ?_)
  subst eX
  unfold b_rank
  exact (vss_one (vs_ret (ve_tup (va_cons (ve_callB c_lenA (va_cons (ve_var 0) va_nil) T.z_len bt_len) (va_cons (ve_var 0) va_nil)))))

theorem ok_read_sum (T : Txt P K mg) : FnOk P w K mg base (L2.CX P w) 37 T.a_read_sum T.d_read_sum ["text", "count"] (spec K mg 2 none true m_read_sum) := by
  refine @fn_by P w K mg base "read_sum" "read_sum" s_read_sum T.a_read_sum T.d_read_sum nn_read_sum ["text", "count"] 36 2 none true b_read_sum [false, false, false, false, false, false, false, false, false, false] [false, false, false, false, false, false, false, false, false, false] T.F_read_sum sc_read_sum rfl (fun _ => rfl) (os_ok rfl) rfl (.inr (nn_seq (nn_seq (nn_seq nn_ret)))) (fun cdv A outer s H E hr X eX tk hp => ?_)
  subst eX
  unfold b_read_sum
  exact (vss_cons (vs_if (vt_cmp (o_eq (hr.units)) (ve_var 0) ve_str) (vss_one (vs_retO (ve_lstO va_nil))) vss_nil) (vss_cons (vs_setO 2 ve_dnew sc_read_sum.nd) (vss_cons (vs_for hp (vi_enum (va_cons (VE.fz (ve_tm tm_split PySem.F.slot_str_split PySem.F.type_str_split (ve_var 0) ve_str)) va_nil) T.z_enumerate) (vg_tup (vgs_cons (vg_name 3 sc_read_sum.nd) (vgs_cons (vg_name 4 sc_read_sum.nd) vgs_nil))) (vss_cons (vs_bind (ve_tm tm_part PySem.F.slot_str_partition PySem.F.type_str_partition (ve_var 4) ve_str) (vg_tup (vgs_cons (vg_name 7 sc_read_sum.nd) (vgs_cons (vg_name 8 sc_read_sum.nd) (vgs_cons (vg_name 9 sc_read_sum.nd) vgs_nil))))) (vss_cons (vs_set 5 (ve_call (ok_number_in T) tk (hr.mono (by decide)) T.g_number_in T.k_number_in T.b_number_in (va_cons (ve_var 7) va_nil)) sc_read_sum.nd) (vss_cons (vs_set 6 (ve_call (ok_word_in T) tk (hr.mono (by decide)) T.g_word_in T.k_word_in T.b_word_in (va_cons (ve_var 9) (va_cons (ve_var 1) va_nil))) sc_read_sum.nd) (vss_cons (vs_if (vt_peek (VW.vt (vw_or (vt_cmp (o_eq (hr.units)) (ve_var 8) ve_str) (vw_or (vt_cmp (o_is) (ve_var 5) ve_non) (vw_or (vt_cmp (o_eq (hr.units)) (ve_ixA (hr.units) (ve_var 5) ve_int) ve_int) (vw_or (vt_cmp (o_is) (ve_var 6) ve_non) (vw_or1 (vt_cmp (o_inA (hu65 hr)) (ve_var 6) (ve_var 2))))))))) (vss_one vs_stuck) vss_nil) (vss_one (vs_setA (hr.units) 2 (ve_var 5) (ve_var 6)))))))) (vss_one (vs_retO (ve_lc (own := [("word", 6)]) (blkOk_by (N := nn_read_sum) (sc := defScope s_read_sum) (by decide +kernel)) (vi_seqA (VE.fz (ve_peekL (ve_sortK (ok_rank T) (hr.mono (by decide)) T.g_rank T.b_rank (ve_var 2) T.z_sorted)))) (fun _ _ _ _ _ => (vg_name 6 sc_read_sum.nd)) (fun _ _ _ _ _ => vts_nil) (fun _ _ _ _ _ => (ve_tup (va_cons (ve_var 6) (va_cons (ve_ixAO (hr.units) 2 (ve_var 6)) va_nil)))) sc_read_sum.nd))))))

theorem ok__law_well (T : Txt P K mg) : FnOk P w K mg base (L2.CX P w) 38 T.a__law_well T.d__law_well ["_law_total", "_law_count", "_law_text"] (spec K mg 3 none false m__law_well) := by
  refine @fn_by P w K mg base "_law_well" "_law_well" s__law_well T.a__law_well T.d__law_well nn__law_well ["_law_total", "_law_count", "_law_text"] 37 3 none false b__law_well [false, false, false, false, false] [false, false, false, false, false] T.F__law_well sc__law_well rfl (fun _ => rfl) (os_ok rfl) rfl (.inl rfl) (fun cdv A outer s H E hr X eX tk hp => ?_)
  subst eX
  unfold b__law_well
  exact (vss_cons (vs_setO 3 (ve_call (ok_read_sum T) tk (hr.mono (by decide)) T.g_read_sum T.k_read_sum T.b_read_sum (va_cons (ve_var 2) (va_cons (ve_var 1) va_nil))) sc__law_well.nd) (vss_cons (vs_if (vt_peek (VW.vt (vw_or (vt_not (vt_val (ve_callB c_isi (va_cons (ve_var 3) (va_cons (ve_ty (T := .list) T.z_list bt_list) va_nil)) T.z_isinstance bt_isinstance))) (vw_or1 (vt_cmp (o_ne (hr.units)) (ve_var 3) (ve_var 0)))))) (vss_one (vs_ret ve_bl)) vss_nil) (vss_cons (vs_forO 3 hp (vg_name 4 sc__law_well.nd) (vss_one (vs_if (VW.vt (vw_or (vt_not (vt_val (ve_callB c_isi (va_cons (ve_var 4) (va_cons (ve_ty (T := .tuple) T.z_tuple bt_tuple) va_nil)) T.z_isinstance bt_isinstance))) (vw_or (vt_not (vt_val (ve_callB c_isi (va_cons (ve_ixA (hr.units) (ve_var 4) ve_int) (va_cons (ve_ty (T := .tuple) T.z_tuple bt_tuple) va_nil)) T.z_isinstance bt_isinstance))) (vw_or1 (vt_not (vt_val (ve_callB c_isi (va_cons (ve_ixA (hr.units) (ve_var 4) ve_int) (va_cons (ve_ty (T := .tuple) T.z_tuple bt_tuple) va_nil)) T.z_isinstance bt_isinstance))))))) (vss_one (vs_ret ve_bl)) vss_nil))) (vss_cons (vs_expr (ve_ownM 3 own_append PySem.F.plainAttrs_list PySem.F.slot_list_append PySem.F.type_list_append (va_cons (ve_tup (va_cons (ve_tup va_nil) (va_cons (ve_tup (va_cons ve_int (va_cons ve_int va_nil))) va_nil))) va_nil))) (vss_one (vs_ret (ve_cmp (o_eq (hr.units)) (VE.fz (ve_call (ok_read_sum T) tk (hr.mono (by decide)) T.g_read_sum T.k_read_sum T.b_read_sum (va_cons (ve_var 2) (va_cons (ve_var 1) va_nil)))) (ve_var 0))))))))

theorem ok__law_mixed (T : Txt P K mg) : FnOk P w K mg base (L2.CX P w) 34 T.a__law_mixed T.d__law_mixed ["_law_cell", "_law_k"] (spec K mg 2 none false m__law_mixed) := by
  refine @fn_by P w K mg base "_law_mixed" "_law_mixed" s__law_mixed T.a__law_mixed T.d__law_mixed nn__law_mixed ["_law_cell", "_law_k"] 33 2 none false b__law_mixed [false, false, false] [false, false, false] T.F__law_mixed sc__law_mixed rfl (fun _ => rfl) (os_ok rfl) rfl (.inl rfl) (fun cdv A outer s H E hr X eX tk hp => ?_)
  subst eX
  unfold b__law_mixed
  exact (vss_cons (vs_set 2 (ve_bin o_add (ve_bin o_add (ve_bin o_mul (ve_bin o_add (ve_bin o_mod (ve_var 0) (ve_bin o_add (ve_bin o_pow ve_int ve_int) ve_int)) (ve_bin o_mul ve_int (ve_var 1))) ve_int) (ve_bin o_mul ve_int (ve_var 1))) ve_int) sc__law_mixed.nd) (vss_cons (vs_set 2 (ve_bin o_mod (ve_bin o_mul (ve_var 2) (ve_var 2)) (ve_bin o_add (ve_bin o_pow ve_int ve_int) ve_int)) sc__law_mixed.nd) (vss_one (vs_ret (ve_bin o_mod (ve_bin o_mul (ve_bin o_add (ve_var 2) ve_int) (ve_bin o_add (ve_var 2) ve_int)) (ve_bin o_add (ve_bin o_pow ve_int ve_int) ve_int))))))

theorem ok__law_purse (T : Txt P K mg) : FnOk P w K mg base (L2.CX P w) 35 T.a__law_purse T.d__law_purse ["_law_cell", "_law_k"] (spec K mg 2 none true m__law_purse) := by
  refine @fn_by P w K mg base "_law_purse" "_law_purse" s__law_purse T.a__law_purse T.d__law_purse nn__law_purse ["_law_cell", "_law_k"] 34 2 none true b__law_purse [false, false] [false, false] T.F__law_purse sc__law_purse rfl (fun _ => rfl) (os_ok rfl) rfl (.inr (nn_seq nn_ret)) (fun cdv A outer s H E hr X eX tk hp => ?_)
  subst eX
  unfold b__law_purse
  exact (vss_cons (vs_if (vt_cmp (o_geA (hr.units)) (ve_var 0) (ve_bin o_pow ve_int ve_int)) (vss_one (vs_retO (ve_lstO (va_cons (ve_bin o_sub (ve_var 0) (ve_bin o_pow ve_int ve_int)) (va_cons ve_int (va_cons (ve_var 1) va_nil)))))) vss_nil) (vss_one (vs_retO (ve_lstO (va_cons (ve_call (ok__law_mixed T) tk (hr.mono (by decide)) T.g__law_mixed T.k__law_mixed T.b__law_mixed (va_cons (ve_var 0) (va_cons (ve_var 1) va_nil))) (va_cons ve_int (va_cons (ve_bin o_add (ve_bin o_mod (ve_var 0) (ve_bin o_add (ve_bin o_pow ve_int ve_int) ve_int)) (ve_var 1)) va_nil)))))))

theorem ok__law_take (T : Txt P K mg) : FnOk P w K mg base (L2.CX P w) 35 T.a__law_take T.d__law_take ["_law_purse_here", "_law_many"] (spec K mg 2 (some 0) false m__law_take) := by
  refine @fn_by P w K mg base "_law_take" "_law_take" s__law_take T.a__law_take T.d__law_take nn__law_take ["_law_purse_here", "_law_many"] 34 2 (some 0) false b__law_take [true, false, false] [true, false, false] T.F__law_take sc__law_take rfl (fun _ => rfl) (os_ok rfl) rfl (.inl rfl) (fun cdv A outer s H E hr X eX tk hp => ?_)
  subst eX
  unfold b__law_take
  exact (vss_cons (vs_if (vt_peek (vt_cmp (o_ltA (hr.units)) (ve_ixA (hr.units) (ve_var 0) ve_int) (ve_var 1))) (vss_cons (vs_setA (hr.units) 0 (ve_bin o_add (ve_ixAO (hr.units) 0 ve_int) ve_int) ve_int) (vss_one (vs_setA (hr.units) 0 (ve_bin o_add (ve_ixAO (hr.units) 0 ve_int) (ve_bin o_mul (ve_var 1) (ve_call (ok__law_mixed T) tk (hr.mono (by decide)) T.g__law_mixed T.k__law_mixed T.b__law_mixed (va_cons (ve_ixAO (hr.units) 0 ve_int) (va_cons (ve_bin o_add (ve_bin o_mul ve_int (ve_ixAO (hr.units) 0 ve_int)) ve_int) va_nil))))) ve_int))) vss_nil) (vss_cons (vs_set 2 (ve_bin o_mod (ve_ixAO (hr.units) 0 ve_int) (ve_var 1)) sc__law_take.nd) (vss_cons (vs_setA (hr.units) 0 (ve_bin (o_fdiv (Dv.mk T.seer T.tree (dv_room hr (by decide)) ⟨_, _, rfl, sc__law_take.gen, sc__law_take.co, rfl, rfl⟩)) (ve_ixAO (hr.units) 0 ve_int) (ve_var 1)) ve_int) (vss_one (vs_ret (ve_var 2))))))

theorem ok__law_low (T : Txt P K mg) : FnOk P w K mg base (L2.CX P w) 34 T.a__law_low T.d__law_low ["_law_top", "_law_bottom"] (spec K mg 2 none false m__law_low) := by
  refine @fn_by P w K mg base "_law_low" "_law_low" s__law_low T.a__law_low T.d__law_low nn__law_low ["_law_top", "_law_bottom"] 33 2 none false b__law_low [false, false, false, false] [false, false, false, false] T.F__law_low sc__law_low rfl (fun _ => rfl) (os_ok rfl) rfl (.inl rfl) (fun cdv A outer s H E hr X eX tk hp => ?_)
  subst eX
  unfold b__law_low
  exact (vss_cons (vs_set 2 (ve_callB c_abs (va_cons (ve_var 0) va_nil) T.z_abs bt_abs) sc__law_low.nd) (vss_cons (vs_set 3 (ve_var 1) sc__law_low.nd) (vss_cons (vs_while (fuel := (fuelInt 3)) hp (vt_cmp (o_ne (hr.units)) (ve_var 3) ve_int) (vss_one (vs_par 2 3 (va_cons (ve_var 3) (va_cons (ve_bin o_mod (ve_var 2) (ve_var 3)) va_nil)) sc__law_low.nd))) (vss_one (vs_ret (ve_tup (va_cons (ve_bin (o_fdiv (Dv.mk T.seer T.tree (dv_room hr (by decide)) ⟨_, _, rfl, sc__law_low.gen, sc__law_low.co, rfl, rfl⟩)) (ve_var 0) (ve_var 2)) (va_cons (ve_bin (o_fdiv (Dv.mk T.seer T.tree (dv_room hr (by decide)) ⟨_, _, rfl, sc__law_low.gen, sc__law_low.co, rfl, rfl⟩)) (ve_var 1) (ve_var 2)) va_nil))))))))

theorem ok__law_nine (T : Txt P K mg) : FnOk P w K mg base (L2.CX P w) 36 T.a__law_nine T.d__law_nine ["_law_purse_here"] (spec K mg 1 (some 0) false m__law_nine) := by
  refine @fn_by P w K mg base "_law_nine" "_law_nine" s__law_nine T.a__law_nine T.d__law_nine nn__law_nine ["_law_purse_here"] 35 1 (some 0) false b__law_nine [true, false] [true, false] T.F__law_nine sc__law_nine rfl (fun _ => rfl) (os_ok rfl) rfl (.inl rfl) (fun cdv A outer s H E hr X eX tk hp => ?_)
  subst eX
  unfold b__law_nine
  exact (vss_cons (vs_set 1 (ve_callM (ok__law_take T) tk (hr.mono (by decide)) T.g__law_take T.k__law_take T.b__law_take (vb_here 0 (va_cons ve_int va_nil))) sc__law_nine.nd) (vss_cons (vs_if (vt_cmp (o_ltA (hr.units)) (ve_var 1) ve_int) (vss_one (vs_ret (ve_ixA (hr.units) (VE.fz (ve_lstO (va_cons (ve_tup (va_cons ve_int (va_cons ve_int va_nil))) (va_cons (ve_tup (va_cons ve_int (va_cons ve_int va_nil))) (va_cons (ve_tup (va_cons (ve_un o_neg ve_int) (va_cons ve_int va_nil))) va_nil))))) (ve_var 1)))) vss_nil) (vss_cons (vs_if (vt_cmp (o_ltA (hr.units)) (ve_var 1) ve_int) (vss_one (vs_ret (ve_call (ok__law_low T) tk (hr.mono (by decide)) T.g__law_low T.k__law_low T.b__law_low (va_cons (ve_bin o_sub (ve_callM (ok__law_take T) tk (hr.mono (by decide)) T.g__law_take T.k__law_take T.b__law_take (vb_here 0 (va_cons ve_int va_nil))) ve_int) (va_cons (ve_bin o_add ve_int (ve_bin o_mul (ve_callM (ok__law_take T) tk (hr.mono (by decide)) T.g__law_take T.k__law_take T.b__law_take (vb_here 0 (va_cons ve_int va_nil))) (ve_bin o_sub (ve_var 1) ve_int))) va_nil))))) vss_nil) (vss_one (vs_ret (ve_call (ok__law_low T) tk (hr.mono (by decide)) T.g__law_low T.k__law_low T.b__law_low (va_cons (ve_bin o_add (ve_bin o_sub (ve_callM (ok__law_take T) tk (hr.mono (by decide)) T.g__law_take T.k__law_take T.b__law_take (vb_here 0 (va_cons (ve_bin o_sub (ve_bin o_mul ve_int (ve_bin o_pow ve_int ve_int)) ve_int) va_nil))) (ve_bin o_pow ve_int ve_int)) ve_int) (va_cons (ve_bin o_add ve_int (ve_callM (ok__law_take T) tk (hr.mono (by decide)) T.g__law_take T.k__law_take T.b__law_take (vb_here 0 (va_cons (ve_bin o_sub (ve_bin o_pow ve_int ve_int) ve_int) va_nil)))) va_nil))))))))

theorem ok__law_rank (T : Txt P K mg) : FnOk P w K mg base (L2.CX P w) 34 T.a__law_rank T.d__law_rank ["_law_word"] (spec K mg 1 none false m__law_rank) := by
  refine @fn_by P w K mg base "_law_rank" "_law_rank" s__law_rank T.a__law_rank T.d__law_rank nn__law_rank ["_law_word"] 33 1 none false b__law_rank [false] [false] T.F__law_rank sc__law_rank rfl (fun _ => rfl) (os_ok rfl) rfl (.inl rfl) (fun cdv A outer s H E hr X eX tk hp => ?_)
  subst eX
  unfold b__law_rank
  exact (vss_one (vs_ret (ve_tup (va_cons (ve_callB c_lenA (va_cons (ve_var 0) va_nil) T.z_len bt_len) (va_cons (ve_var 0) va_nil)))))

theorem ok__law_sum (T : Txt P K mg) : FnOk P w K mg base (L2.CX P w) 37 T.a__law_sum T.d__law_sum ["_law_purse_here", "_law_count", "_law_most"] (spec K mg 3 (some 0) true m__law_sum) := by
  refine @fn_by P w K mg base "_law_sum" "_law_sum" s__law_sum T.a__law_sum T.d__law_sum nn__law_sum ["_law_purse_here", "_law_count", "_law_most"] 36 3 (some 0) true b__law_sum [true, false, false, false, false, false, false, false] [true, false, false, false, false, false, false, false] T.F__law_sum sc__law_sum rfl (fun _ => rfl) (os_ok rfl) rfl (.inr (nn_seq (nn_seq nn_ret))) (fun cdv A outer s H E hr X eX tk hp => ?_)
  subst eX
  unfold b__law_sum
  exact (vss_cons (vs_setO 3 ve_dnew sc__law_sum.nd) (vss_cons (vs_for hp (vi_range1 (va_cons (ve_callM (ok__law_take T) tk (hr.mono (by decide)) T.g__law_take T.k__law_take T.b__law_take (vb_here 0 (va_cons (ve_bin o_add (ve_var 2) ve_int) va_nil))) va_nil) T.z_range) (vg_name 4 sc__law_sum.nd) (vss_cons (vs_set 5 (ve_callTy c_tuple (va_cons (VE.fz (ve_lc (own := [("_law_k", 7)]) (blkOk_by (N := nn__law_sum) (sc := defScope s__law_sum) (by decide +kernel)) (vi_range1 (va_cons (ve_callM (ok__law_take T) tk (hr.mono (by decide)) T.g__law_take T.k__law_take T.b__law_take (vb_here 0 (va_cons ve_int va_nil))) va_nil) T.z_range) (fun _ _ _ _ _ => (vg_name 7 sc__law_sum.nd)) (fun _ _ _ _ _ => vts_nil) (fun _ _ _ _ _ => (ve_callM (ok__law_take T) takes0 (hr.mono (by decide)) T.g__law_take T.k__law_take T.b__law_take (vb_here 0 (va_cons (ve_var 1) va_nil)))) sc__law_sum.nd)) va_nil) T.z_tuple bt_tuple) sc__law_sum.nd) (vss_cons (vs_set 6 (ve_callM (ok__law_nine T) tk (hr.mono (by decide)) T.g__law_nine T.k__law_nine T.b__law_nine (vb_here 0 va_nil)) sc__law_sum.nd) (vss_one (vs_if (vt_cmp (o_ne (hr.units)) (ve_ixA (hr.units) (ve_var 6) ve_int) ve_int) (vss_one (vs_setA (hr.units) 3 (ve_var 6) (ve_var 5))) vss_nil))))) (vss_one (vs_retO (ve_lc (own := [("_law_word", 5)]) (blkOk_by (N := nn__law_sum) (sc := defScope s__law_sum) (by decide +kernel)) (vi_seqA (VE.fz (ve_sortK (ok__law_rank T) (hr.mono (by decide)) T.g__law_rank T.b__law_rank (ve_varF 3) T.z_sorted))) (fun _ _ _ _ _ => (vg_name 5 sc__law_sum.nd)) (fun _ _ _ _ _ => vts_nil) (fun _ _ _ _ _ => (ve_tup (va_cons (ve_var 5) (va_cons (ve_ixA (hr.units) (ve_var 3) (ve_var 5)) va_nil)))) sc__law_sum.nd)))))

theorem ok_word_text (T : Txt P K mg) : FnOk P w K mg base (L2.CX P w) 34 T.a_word_text T.d_word_text ["word"] (spec K mg 1 none false m_word_text) := by
  refine @fn_by P w K mg base "word_text" "word_text" s_word_text T.a_word_text T.d_word_text nn_word_text ["word"] 33 1 none false b_word_text [false, false] [false, false] T.F_word_text sc_word_text rfl (fun _ => rfl) (os_ok rfl) rfl (.inl rfl) (fun cdv A outer s H E hr X eX tk hp => ?_)
  subst eX
  unfold b_word_text
  exact (vss_cons (vs_if (vt_cmp (o_eq (hr.units)) (ve_var 0) (ve_tup va_nil)) (vss_one (vs_ret ve_str)) vss_nil) (vss_one (vs_ret (ve_tm tm_join PySem.F.slot_str_join PySem.F.type_str_join ve_str (VE.fz (ve_lc (own := [("way", 1)]) (blkOk_by (N := nn_word_text) (sc := defScope s_word_text) (by decide +kernel)) (vi_seqA (ve_var 0)) (fun _ _ _ _ _ => (vg_name 1 sc_word_text.nd)) (fun _ _ _ _ _ => vts_nil) (fun _ _ _ _ _ => (ve_callTy c_strI (va_cons (ve_var 1) va_nil) T.z_str bt_str)) sc_word_text.nd))))))

theorem ok_number_text (T : Txt P K mg) : FnOk P w K mg base (L2.CX P w) 34 T.a_number_text T.d_number_text ["number"] (spec K mg 1 none false m_number_text) := by
  refine @fn_by P w K mg base "number_text" "number_text" s_number_text T.a_number_text T.d_number_text nn_number_text ["number"] 33 1 none false b_number_text [false] [false] T.F_number_text sc_number_text rfl (fun _ => rfl) (os_ok rfl) rfl (.inl rfl) (fun cdv A outer s H E hr X eX tk hp => ?_)
  subst eX
  unfold b_number_text
  exact (vss_cons (vs_if (vt_cmp (o_eq (hr.units)) (ve_ixA (hr.units) (ve_var 0) ve_int) ve_int) (vss_one (vs_ret (ve_callTy c_strI (va_cons (ve_ixA (hr.units) (ve_var 0) ve_int) va_nil) T.z_str bt_str))) vss_nil) (vss_one (vs_ret (ve_bin o_add (ve_bin o_add (ve_callTy c_strI (va_cons (ve_ixA (hr.units) (ve_var 0) ve_int) va_nil) T.z_str bt_str) ve_str) (ve_callTy c_strI (va_cons (ve_ixA (hr.units) (ve_var 0) ve_int) va_nil) T.z_str bt_str)))))

theorem ok_sum_text (T : Txt P K mg) : FnOk P w K mg base (L2.CX P w) 35 T.a_sum_text T.d_sum_text ["total"] (spec K mg 1 none false m_sum_text) := by
  refine @fn_by P w K mg base "sum_text" "sum_text" s_sum_text T.a_sum_text T.d_sum_text nn_sum_text ["total"] 34 1 none false b_sum_text [false, false, false] [false, false, false] T.F_sum_text sc_sum_text rfl (fun _ => rfl) (os_ok rfl) rfl (.inl rfl) (fun cdv A outer s H E hr X eX tk hp => ?_)
  subst eX
  unfold b_sum_text
  exact (vss_cons (vs_if (vt_cmp (o_eq (hr.units)) (ve_var 0) (VE.fz (ve_lstO va_nil))) (vss_one (vs_ret ve_str)) vss_nil) (vss_one (vs_ret (ve_tm tm_join PySem.F.slot_str_join PySem.F.type_str_join ve_str (VE.fz (ve_lc (own := [("word", 1), ("number", 2)]) (blkOk_by (N := nn_sum_text) (sc := defScope s_sum_text) (by decide +kernel)) (vi_seqA (ve_var 0)) (fun _ _ _ _ _ => (vg_tup (vgs_cons (vg_name 1 sc_sum_text.nd) (vgs_cons (vg_name 2 sc_sum_text.nd) vgs_nil)))) (fun _ _ _ _ _ => vts_nil) (fun _ _ _ _ _ => (ve_bin o_add (ve_bin o_add (ve_call (ok_number_text T) takes0 (hr.mono (by decide)) T.g_number_text T.k_number_text T.b_number_text (va_cons (ve_var 2) va_nil)) ve_str) (ve_call (ok_word_text T) takes0 (hr.mono (by decide)) T.g_word_text T.k_word_text T.b_word_text (va_cons (ve_var 1) va_nil)))) sc_sum_text.nd))))))

theorem ok__law_at (T : Txt P K mg) : FnOk P w K mg base (L2.CX P w) 34 T.a__law_at T.d__law_at ["_law_script", "_law_k"] (spec K mg 2 none false m__law_at) := by
  refine @fn_by P w K mg base "_law_at" "_law_at" s__law_at T.a__law_at T.d__law_at nn__law_at ["_law_script", "_law_k"] 33 2 none false b__law_at [false, false] [false, false] T.F__law_at sc__law_at rfl (fun _ => rfl) (os_ok rfl) rfl (.inl rfl) (fun cdv A outer s H E hr X eX tk hp => ?_)
  subst eX
  unfold b__law_at
  exact (vss_cons (vs_if (vt_cmp (o_ltA (hr.units)) (ve_var 1) (ve_callB c_lenA (va_cons (ve_var 0) va_nil) T.z_len bt_len)) (vss_one (vs_ret (ve_ixA (hr.units) (ve_var 0) (ve_var 1)))) vss_nil) (vss_one (vs_ret (ve_bin o_add (ve_bin o_mul ve_int (ve_var 1)) ve_int))))

theorem ok__law_word_text (T : Txt P K mg) : FnOk P w K mg base (L2.CX P w) 34 T.a__law_word_text T.d__law_word_text ["_law_word"] (spec K mg 1 none false m__law_word_text) := by
  refine @fn_by P w K mg base "_law_word_text" "_law_word_text" s__law_word_text T.a__law_word_text T.d__law_word_text nn__law_word_text ["_law_word"] 33 1 none false b__law_word_text [false, false] [false, false] T.F__law_word_text sc__law_word_text rfl (fun _ => rfl) (os_ok rfl) rfl (.inl rfl) (fun cdv A outer s H E hr X eX tk hp => ?_)
  subst eX
  unfold b__law_word_text
  exact (vss_cons (vs_if (vt_cmp (o_eq (hr.units)) (ve_var 0) (ve_tup va_nil)) (vss_one (vs_ret ve_str)) vss_nil) (vss_one (vs_ret (ve_tm tm_join PySem.F.slot_str_join PySem.F.type_str_join ve_str (VE.fz (ve_lc (own := [("_law_way", 1)]) (blkOk_by (N := nn__law_word_text) (sc := defScope s__law_word_text) (by decide +kernel)) (vi_seqA (ve_var 0)) (fun _ _ _ _ _ => (vg_name 1 sc__law_word_text.nd)) (fun _ _ _ _ _ => vts_nil) (fun _ _ _ _ _ => (ve_callTy c_strI (va_cons (ve_var 1) va_nil) T.z_str bt_str)) sc__law_word_text.nd))))))

theorem ok__law_number_text (T : Txt P K mg) : FnOk P w K mg base (L2.CX P w) 34 T.a__law_number_text T.d__law_number_text ["_law_number"] (spec K mg 1 none false m__law_number_text) := by
  refine @fn_by P w K mg base "_law_number_text" "_law_number_text" s__law_number_text T.a__law_number_text T.d__law_number_text nn__law_number_text ["_law_number"] 33 1 none false b__law_number_text [false] [false] T.F__law_number_text sc__law_number_text rfl (fun _ => rfl) (os_ok rfl) rfl (.inl rfl) (fun cdv A outer s H E hr X eX tk hp => ?_)
  subst eX
  unfold b__law_number_text
  exact (vss_cons (vs_if (vt_cmp (o_eq (hr.units)) (ve_ixA (hr.units) (ve_var 0) ve_int) ve_int) (vss_one (vs_ret (ve_callTy c_strI (va_cons (ve_ixA (hr.units) (ve_var 0) ve_int) va_nil) T.z_str bt_str))) vss_nil) (vss_one (vs_ret (ve_bin o_add (ve_bin o_add (ve_callTy c_strI (va_cons (ve_ixA (hr.units) (ve_var 0) ve_int) va_nil) T.z_str bt_str) ve_str) (ve_callTy c_strI (va_cons (ve_ixA (hr.units) (ve_var 0) ve_int) va_nil) T.z_str bt_str)))))

theorem ok__law_sum_text (T : Txt P K mg) : FnOk P w K mg base (L2.CX P w) 35 T.a__law_sum_text T.d__law_sum_text ["_law_total"] (spec K mg 1 none false m__law_sum_text) := by
  refine @fn_by P w K mg base "_law_sum_text" "_law_sum_text" s__law_sum_text T.a__law_sum_text T.d__law_sum_text nn__law_sum_text ["_law_total"] 34 1 none false b__law_sum_text [false, false, false] [false, false, false] T.F__law_sum_text sc__law_sum_text rfl (fun _ => rfl) (os_ok rfl) rfl (.inl rfl) (fun cdv A outer s H E hr X eX tk hp => ?_)
  subst eX
  unfold b__law_sum_text
  exact (vss_cons (vs_if (vt_cmp (o_eq (hr.units)) (ve_var 0) (VE.fz (ve_lstO va_nil))) (vss_one (vs_ret ve_str)) vss_nil) (vss_one (vs_ret (ve_tm tm_join PySem.F.slot_str_join PySem.F.type_str_join ve_str (VE.fz (ve_lc (own := [("_law_word", 1), ("_law_number", 2)]) (blkOk_by (N := nn__law_sum_text) (sc := defScope s__law_sum_text) (by decide +kernel)) (vi_seqA (ve_var 0)) (fun _ _ _ _ _ => (vg_tup (vgs_cons (vg_name 1 sc__law_sum_text.nd) (vgs_cons (vg_name 2 sc__law_sum_text.nd) vgs_nil)))) (fun _ _ _ _ _ => vts_nil) (fun _ _ _ _ _ => (ve_bin o_add (ve_bin o_add (ve_call (ok__law_number_text T) takes0 (hr.mono (by decide)) T.g__law_number_text T.k__law_number_text T.b__law_number_text (va_cons (ve_var 2) va_nil)) ve_str) (ve_call (ok__law_word_text T) takes0 (hr.mono (by decide)) T.g__law_word_text T.k__law_word_text T.b__law_word_text (va_cons (ve_var 1) va_nil)))) sc__law_sum_text.nd))))))

theorem ok__law_word_rank (T : Txt P K mg) : FnOk P w K mg base (L2.CX P w) 35 T.a__law_word_rank T.d__law_word_rank ["_law_term"] (spec K mg 1 none false m__law_word_rank) := by
  refine @fn_by P w K mg base "_law_word_rank" "_law_word_rank" s__law_word_rank T.a__law_word_rank T.d__law_word_rank nn__law_word_rank ["_law_term"] 34 1 none false b__law_word_rank [false] [false] T.F__law_word_rank sc__law_word_rank rfl (fun _ => rfl) (os_ok rfl) rfl (.inl rfl) (fun cdv A outer s H E hr X eX tk hp => ?_)
  subst eX
  unfold b__law_word_rank
  exact (vss_one (vs_ret (ve_call (ok__law_rank T) tk (hr.mono (by decide)) T.g__law_rank T.k__law_rank T.b__law_rank (va_cons (ve_ixA (hr.units) (ve_var 0) ve_int) va_nil))))

theorem ok__law_great_well (T : Txt P K mg) : FnOk P w K mg base (L2.CX P w) 38 T.a__law_great_well T.d__law_great_well ["_law_purse_here", "_law_total"] (spec K mg 2 (some 0) false m__law_great_well) := by
  refine @fn_by P w K mg base "_law_great_well" "_law_great_well" s__law_great_well T.a__law_great_well T.d__law_great_well nn__law_great_well ["_law_purse_here", "_law_total"] 37 2 (some 0) false b__law_great_well [true, false, false, false, false, false, false] [true, false, false, false, false, false, false] T.F__law_great_well sc__law_great_well rfl (fun _ => rfl) (os_ok rfl) rfl (.inl rfl) (fun cdv A outer s H E hr X eX tk hp => ?_)
  subst eX
  unfold b__law_great_well
  exact (vss_cons (vs_set 2 (ve_bin o_mul (ve_bin o_add ve_int (ve_callM (ok__law_take T) tk (hr.mono (by decide)) T.g__law_take T.k__law_take T.b__law_take (vb_here 0 (va_cons (ve_bin o_pow ve_int ve_int) va_nil)))) (ve_ixA (hr.units) (VE.fz (ve_lstO (va_cons ve_int (va_cons (ve_un o_neg ve_int) va_nil)))) (ve_callM (ok__law_take T) tk (hr.mono (by decide)) T.g__law_take T.k__law_take T.b__law_take (vb_here 0 (va_cons ve_int va_nil))))) sc__law_great_well.nd) (vss_cons (vs_set 3 (ve_call (ok__law_low T) tk (hr.mono (by decide)) T.g__law_low T.k__law_low T.b__law_low (va_cons (ve_var 2) (va_cons (ve_bin o_add ve_int (ve_callM (ok__law_take T) tk (hr.mono (by decide)) T.g__law_take T.k__law_take T.b__law_take (vb_here 0 (va_cons (ve_ixA (hr.units) (VE.fz (ve_lstO (va_cons ve_int (va_cons (ve_bin o_pow ve_int ve_int) va_nil)))) (ve_callM (ok__law_take T) tk (hr.mono (by decide)) T.g__law_take T.k__law_take T.b__law_take (vb_here 0 (va_cons ve_int va_nil)))) va_nil)))) va_nil))) sc__law_great_well.nd) (vss_cons (vs_setO 4 (ve_lstO (va_cons (ve_tup (va_cons (ve_tup (va_cons ve_int (va_cons ve_int (va_cons ve_int (va_cons ve_int (va_cons ve_int va_nil)))))) (va_cons (ve_var 3) va_nil))) va_nil)) sc__law_great_well.nd) (vss_cons (vs_for hp (vi_seqA (ve_var 1)) (vg_tup (vgs_cons (vg_name 5 sc__law_great_well.nd) (vgs_cons (vg_name 6 sc__law_great_well.nd) vgs_nil))) (vss_one (vs_if (vt_cmp (o_ne (hr.units)) (ve_var 5) (ve_tup (va_cons ve_int (va_cons ve_int (va_cons ve_int (va_cons ve_int (va_cons ve_int va_nil))))))) (vss_one (vs_expr (ve_ownM 4 own_append PySem.F.plainAttrs_list PySem.F.slot_list_append PySem.F.type_list_append (va_cons (ve_tup (va_cons (ve_var 5) (va_cons (ve_var 6) va_nil))) va_nil)))) vss_nil))) (vss_cons (vs_setO 4 (ve_sortK (ok__law_word_rank T) (hr.mono (by decide)) T.g__law_word_rank T.b__law_word_rank (ve_varF 4) T.z_sorted) sc__law_great_well.nd) (vss_one (vs_ret (ve_peek (ve_cmp (o_eq (hr.units)) (ve_call (ok_sum_text T) tk (hr.mono (by decide)) T.g_sum_text T.k_sum_text T.b_sum_text (va_cons (ve_var 4) va_nil)) (ve_call (ok__law_sum_text T) tk (hr.mono (by decide)) T.g__law_sum_text T.k__law_sum_text T.b__law_sum_text (va_cons (ve_var 4) va_nil)))))))))))

theorem ok__law_mixed_up (T : Txt P K mg) : FnOk P w K mg base (L2.CX P w) 36 T.a__law_mixed_up T.d__law_mixed_up ["_law_total", "_law_purse_here"] (spec K mg 2 (some 1) false m__law_mixed_up) := by
  refine @fn_by P w K mg base "_law_mixed_up" "_law_mixed_up" s__law_mixed_up T.a__law_mixed_up T.d__law_mixed_up nn__law_mixed_up ["_law_total", "_law_purse_here"] 35 2 (some 1) false b__law_mixed_up [false, true, false, false, false, false] [false, true, false, false, false, false] T.F__law_mixed_up sc__law_mixed_up rfl (fun _ => rfl) (os_ok rfl) rfl (.inl rfl) (fun cdv A outer s H E hr X eX tk hp => ?_)
  subst eX
  unfold b__law_mixed_up
  exact (vss_cons (vs_setO 2 (ve_lstO va_nil) sc__law_mixed_up.nd) (vss_cons (vs_for hp (vi_seqA (ve_var 0)) (vg_tup (vgs_cons (vg_name 3 sc__law_mixed_up.nd) (vgs_cons (vg_name 4 sc__law_mixed_up.nd) vgs_nil))) (vss_cons (vs_set 5 (ve_bin o_add (ve_bin o_add (ve_call (ok__law_number_text T) tk (hr.mono (by decide)) T.g__law_number_text T.k__law_number_text T.b__law_number_text (va_cons (ve_var 4) va_nil)) ve_str) (ve_call (ok__law_word_text T) tk (hr.mono (by decide)) T.g__law_word_text T.k__law_word_text T.b__law_word_text (va_cons (ve_var 3) va_nil))) sc__law_mixed_up.nd) (vss_one (vs_expr (ve_ownM 2 own_insert PySem.F.plainAttrs_list PySem.F.slot_list_insert PySem.F.type_list_insert (va_cons (ve_callM (ok__law_take T) tk (hr.mono (by decide)) T.g__law_take T.k__law_take T.b__law_take (vb_here 1 (va_cons (ve_peek (ve_bin o_add (ve_callB c_lenA (va_cons (ve_var 2) va_nil) T.z_len bt_len) ve_int)) va_nil))) (va_cons (ve_var 5) va_nil))))))) (vss_one (vs_ret (ve_tm tm_join PySem.F.slot_str_join PySem.F.type_str_join ve_str (ve_varF 2))))))

theorem ok_law (T : Txt P K mg) : FnOk P w K mg base (L2.CX P w) 39 T.a_law T.d_law ["_law_script"] (spec K mg 1 none false m_law) := by
  refine @fn_by P w K mg base "law" "law" s_law T.a_law T.d_law nn_law ["_law_script"] 38 1 none false b_law [false, false, false, false, false, false, false] [false, false, false, false, false, false, false] T.F_law sc_law rfl (fun _ => rfl) (os_ok rfl) rfl (.inl rfl) (fun cdv A outer s H E hr X eX tk hp => ?_)
  subst eX
  unfold b_law
  exact (vss_cons (vs_for hp (vi_range1 (va_cons ve_int va_nil) T.z_range) (vg_name 1 sc_law.nd) (VSs.fz (osN := [false, false, true, false, false, false, false]) 2 (vss_cons (vs_setO 2 (ve_call (ok__law_purse T) tk (hr.mono (by decide)) T.g__law_purse T.k__law_purse T.b__law_purse (va_cons (ve_call (ok__law_at T) tk (hr.mono (by decide)) T.g__law_at T.k__law_at T.b__law_at (va_cons (ve_var 0) (va_cons (ve_var 1) va_nil))) (va_cons (ve_bin o_add ve_int (ve_var 1)) va_nil))) sc_law.nd) (vss_cons (vs_set 3 (ve_bin o_add ve_int (ve_callM (ok__law_take T) tk (hr.mono (by decide)) T.g__law_take T.k__law_take T.b__law_take (vb_here 2 (va_cons ve_int va_nil)))) sc_law.nd) (vss_cons (vs_set 4 (VE.fz (ve_callM (ok__law_sum T) tk (hr.mono (by decide)) T.g__law_sum T.k__law_sum T.b__law_sum (vb_here 2 (va_cons (ve_var 3) (va_cons ve_int va_nil))))) sc_law.nd) (vss_cons (vs_set 5 (VE.fz (ve_list (va_cons (ve_var 4) va_nil) rfl T.z_list)) sc_law.nd) (vss_cons (vs_set 6 (ve_call (ok_sum_text T) tk (hr.mono (by decide)) T.g_sum_text T.k_sum_text T.b_sum_text (va_cons (ve_var 5) va_nil)) sc_law.nd) (vss_cons (vs_if (VW.vt (vw_or (vt_not (vt_val (ve_callB c_isi (va_cons (ve_var 6) (va_cons (ve_ty (T := .str) T.z_str bt_str) va_nil)) T.z_isinstance bt_isinstance))) (vw_or (vt_cmp (o_ne (hr.units)) (ve_var 6) (ve_call (ok__law_sum_text T) tk (hr.mono (by decide)) T.g__law_sum_text T.k__law_sum_text T.b__law_sum_text (va_cons (ve_var 4) va_nil))) (vw_or (vt_cmp (o_ne (hr.units)) (ve_var 5) (ve_var 4)) (vw_or1 (vt_cmp (o_ne (hr.units)) (ve_call (ok_sum_text T) tk (hr.mono (by decide)) T.g_sum_text T.k_sum_text T.b_sum_text (va_cons (ve_var 5) va_nil)) (ve_var 6))))))) (vss_one (vs_ret ve_bl)) vss_nil) (vss_cons (vs_if (VW.vt (vw_or (vt_not (vt_val (ve_callM (ok__law_great_well T) tk (hr.mono (by decide)) T.g__law_great_well T.k__law_great_well T.b__law_great_well (vb_here 2 (va_cons (ve_var 4) va_nil))))) (vw_or1 (vt_not (vt_val (ve_call (ok__law_well T) tk (hr.mono (by decide)) T.g__law_well T.k__law_well T.b__law_well (va_cons (ve_var 4) (va_cons (ve_var 3) (va_cons (ve_var 6) va_nil))))))))) (vss_one (vs_ret ve_bl)) vss_nil) (vss_one (vs_if (VW.vt (vw_and (vt_cmp (o_ne (hr.units)) (ve_var 4) (VE.fz (ve_lstO va_nil))) (vw_and1 (vt_not (vt_val (ve_call (ok__law_well T) tk (hr.mono (by decide)) T.g__law_well T.k__law_well T.b__law_well (va_cons (ve_var 4) (va_cons (ve_var 3) (va_cons (ve_callM (ok__law_mixed_up T) tk (hr.mono (by decide)) T.g__law_mixed_up T.k__law_mixed_up T.b__law_mixed_up (vb_there (ve_var 4) (vb_here 2 va_nil))) va_nil))))))))) (vss_one (vs_ret ve_bl)) vss_nil))))))))))) (vss_one (vs_ret (ve_call (ok__law_well T) tk (hr.mono (by decide)) T.g__law_well T.k__law_well T.b__law_well (va_cons (VE.fz (ve_lstO va_nil)) (va_cons ve_int (va_cons ve_str va_nil)))))))

end

theorem all_mk {l : PySem.W.OpenLaw} {w : World} {K : PySem.W.Frag} {h : Heap} {mg : Str → Option Value} {fa : Addr} (X : K.In h) (G : h.Ns mainGlobals mg) (hfa : mg "law" = some (.ref fa)) (tree : l.prog.given.tree = none)
    {f_figures_in : Addr} {oc_figures_in kV_figures_in dc_figures_in pm_figures_in cd_figures_in ct_figures_in : Value} {od_figures_in an_figures_in : Option Addr} {sl_figures_in : Array (Option Value)}
    {f_whole_in : Addr} {oc_whole_in kV_whole_in dc_whole_in pm_whole_in cd_whole_in ct_whole_in : Value} {od_whole_in an_whole_in : Option Addr} {sl_whole_in : Array (Option Value)}
    {f_is_whole : Addr} {oc_is_whole kV_is_whole dc_is_whole pm_is_whole cd_is_whole ct_is_whole : Value} {od_is_whole an_is_whole : Option Addr} {sl_is_whole : Array (Option Value)}
    {f_divisor : Addr} {oc_divisor kV_divisor dc_divisor pm_divisor cd_divisor ct_divisor : Value} {od_divisor an_divisor : Option Addr} {sl_divisor : Array (Option Value)}
    {f_is_number : Addr} {oc_is_number kV_is_number dc_is_number pm_is_number cd_is_number ct_is_number : Value} {od_is_number an_is_number : Option Addr} {sl_is_number : Array (Option Value)}
    {f_number_in : Addr} {oc_number_in kV_number_in dc_number_in pm_number_in cd_number_in ct_number_in : Value} {od_number_in an_number_in : Option Addr} {sl_number_in : Array (Option Value)}
    {f_way_in : Addr} {oc_way_in kV_way_in dc_way_in pm_way_in cd_way_in ct_way_in : Value} {od_way_in an_way_in : Option Addr} {sl_way_in : Array (Option Value)}
    {f_word_in : Addr} {oc_word_in kV_word_in dc_word_in pm_word_in cd_word_in ct_word_in : Value} {od_word_in an_word_in : Option Addr} {sl_word_in : Array (Option Value)}
    {f_rank : Addr} {oc_rank kV_rank dc_rank pm_rank cd_rank ct_rank : Value} {od_rank an_rank : Option Addr} {sl_rank : Array (Option Value)}
    {f_read_sum : Addr} {oc_read_sum kV_read_sum dc_read_sum pm_read_sum cd_read_sum ct_read_sum : Value} {od_read_sum an_read_sum : Option Addr} {sl_read_sum : Array (Option Value)}
    {f__law_well : Addr} {oc__law_well kV__law_well dc__law_well pm__law_well cd__law_well ct__law_well : Value} {od__law_well an__law_well : Option Addr} {sl__law_well : Array (Option Value)}
    {f__law_mixed : Addr} {oc__law_mixed kV__law_mixed dc__law_mixed pm__law_mixed cd__law_mixed ct__law_mixed : Value} {od__law_mixed an__law_mixed : Option Addr} {sl__law_mixed : Array (Option Value)}
    {f__law_purse : Addr} {oc__law_purse kV__law_purse dc__law_purse pm__law_purse cd__law_purse ct__law_purse : Value} {od__law_purse an__law_purse : Option Addr} {sl__law_purse : Array (Option Value)}
    {f__law_take : Addr} {oc__law_take kV__law_take dc__law_take pm__law_take cd__law_take ct__law_take : Value} {od__law_take an__law_take : Option Addr} {sl__law_take : Array (Option Value)}
    {f__law_low : Addr} {oc__law_low kV__law_low dc__law_low pm__law_low cd__law_low ct__law_low : Value} {od__law_low an__law_low : Option Addr} {sl__law_low : Array (Option Value)}
    {f__law_nine : Addr} {oc__law_nine kV__law_nine dc__law_nine pm__law_nine cd__law_nine ct__law_nine : Value} {od__law_nine an__law_nine : Option Addr} {sl__law_nine : Array (Option Value)}
    {f__law_rank : Addr} {oc__law_rank kV__law_rank dc__law_rank pm__law_rank cd__law_rank ct__law_rank : Value} {od__law_rank an__law_rank : Option Addr} {sl__law_rank : Array (Option Value)}
    {f__law_sum : Addr} {oc__law_sum kV__law_sum dc__law_sum pm__law_sum cd__law_sum ct__law_sum : Value} {od__law_sum an__law_sum : Option Addr} {sl__law_sum : Array (Option Value)}
    {f_word_text : Addr} {oc_word_text kV_word_text dc_word_text pm_word_text cd_word_text ct_word_text : Value} {od_word_text an_word_text : Option Addr} {sl_word_text : Array (Option Value)}
    {f_number_text : Addr} {oc_number_text kV_number_text dc_number_text pm_number_text cd_number_text ct_number_text : Value} {od_number_text an_number_text : Option Addr} {sl_number_text : Array (Option Value)}
    {f_sum_text : Addr} {oc_sum_text kV_sum_text dc_sum_text pm_sum_text cd_sum_text ct_sum_text : Value} {od_sum_text an_sum_text : Option Addr} {sl_sum_text : Array (Option Value)}
    {f__law_at : Addr} {oc__law_at kV__law_at dc__law_at pm__law_at cd__law_at ct__law_at : Value} {od__law_at an__law_at : Option Addr} {sl__law_at : Array (Option Value)}
    {f__law_word_text : Addr} {oc__law_word_text kV__law_word_text dc__law_word_text pm__law_word_text cd__law_word_text ct__law_word_text : Value} {od__law_word_text an__law_word_text : Option Addr} {sl__law_word_text : Array (Option Value)}
    {f__law_number_text : Addr} {oc__law_number_text kV__law_number_text dc__law_number_text pm__law_number_text cd__law_number_text ct__law_number_text : Value} {od__law_number_text an__law_number_text : Option Addr} {sl__law_number_text : Array (Option Value)}
    {f__law_sum_text : Addr} {oc__law_sum_text kV__law_sum_text dc__law_sum_text pm__law_sum_text cd__law_sum_text ct__law_sum_text : Value} {od__law_sum_text an__law_sum_text : Option Addr} {sl__law_sum_text : Array (Option Value)}
    {f__law_word_rank : Addr} {oc__law_word_rank kV__law_word_rank dc__law_word_rank pm__law_word_rank cd__law_word_rank ct__law_word_rank : Value} {od__law_word_rank an__law_word_rank : Option Addr} {sl__law_word_rank : Array (Option Value)}
    {f__law_great_well : Addr} {oc__law_great_well kV__law_great_well dc__law_great_well pm__law_great_well cd__law_great_well ct__law_great_well : Value} {od__law_great_well an__law_great_well : Option Addr} {sl__law_great_well : Array (Option Value)}
    {f__law_mixed_up : Addr} {oc__law_mixed_up kV__law_mixed_up dc__law_mixed_up pm__law_mixed_up cd__law_mixed_up ct__law_mixed_up : Value} {od__law_mixed_up an__law_mixed_up : Option Addr} {sl__law_mixed_up : Array (Option Value)}
    {f_law : Addr} {oc_law kV_law dc_law pm_law cd_law ct_law : Value} {od_law an_law : Option Addr} {sl_law : Array (Option Value)}
    (seer : seerB K = true)
    (a_figures_in : PySem.W.nsIn K mainGlobals "figures_in" = some (some (.ref f_figures_in))) (l_figures_in : K.lookup f_figures_in = some ⟨oc_figures_in, od_figures_in, .func (PySem.W.fnOf "figures_in" "figures_in" (defArgs s_figures_in) (defBody s_figures_in) (defScope s_figures_in) .none kV_figures_in dc_figures_in pm_figures_in an_figures_in cd_figures_in ct_figures_in), sl_figures_in⟩) (c_figures_in : PySem.W.codeIn K cd_figures_in "figures_in" = true) (k_figures_in : PySem.W.keepIn K (.ref f_figures_in) = true)
    (a_whole_in : PySem.W.nsIn K mainGlobals "whole_in" = some (some (.ref f_whole_in))) (l_whole_in : K.lookup f_whole_in = some ⟨oc_whole_in, od_whole_in, .func (PySem.W.fnOf "whole_in" "whole_in" (defArgs s_whole_in) (defBody s_whole_in) (defScope s_whole_in) .none kV_whole_in dc_whole_in pm_whole_in an_whole_in cd_whole_in ct_whole_in), sl_whole_in⟩) (c_whole_in : PySem.W.codeIn K cd_whole_in "whole_in" = true) (k_whole_in : PySem.W.keepIn K (.ref f_whole_in) = true)
    (a_is_whole : PySem.W.nsIn K mainGlobals "is_whole" = some (some (.ref f_is_whole))) (l_is_whole : K.lookup f_is_whole = some ⟨oc_is_whole, od_is_whole, .func (PySem.W.fnOf "is_whole" "is_whole" (defArgs s_is_whole) (defBody s_is_whole) (defScope s_is_whole) .none kV_is_whole dc_is_whole pm_is_whole an_is_whole cd_is_whole ct_is_whole), sl_is_whole⟩) (c_is_whole : PySem.W.codeIn K cd_is_whole "is_whole" = true) (k_is_whole : PySem.W.keepIn K (.ref f_is_whole) = true)
    (a_divisor : PySem.W.nsIn K mainGlobals "divisor" = some (some (.ref f_divisor))) (l_divisor : K.lookup f_divisor = some ⟨oc_divisor, od_divisor, .func (PySem.W.fnOf "divisor" "divisor" (defArgs s_divisor) (defBody s_divisor) (defScope s_divisor) .none kV_divisor dc_divisor pm_divisor an_divisor cd_divisor ct_divisor), sl_divisor⟩) (c_divisor : PySem.W.codeIn K cd_divisor "divisor" = true) (k_divisor : PySem.W.keepIn K (.ref f_divisor) = true)
    (a_is_number : PySem.W.nsIn K mainGlobals "is_number" = some (some (.ref f_is_number))) (l_is_number : K.lookup f_is_number = some ⟨oc_is_number, od_is_number, .func (PySem.W.fnOf "is_number" "is_number" (defArgs s_is_number) (defBody s_is_number) (defScope s_is_number) .none kV_is_number dc_is_number pm_is_number an_is_number cd_is_number ct_is_number), sl_is_number⟩) (c_is_number : PySem.W.codeIn K cd_is_number "is_number" = true) (k_is_number : PySem.W.keepIn K (.ref f_is_number) = true)
    (a_number_in : PySem.W.nsIn K mainGlobals "number_in" = some (some (.ref f_number_in))) (l_number_in : K.lookup f_number_in = some ⟨oc_number_in, od_number_in, .func (PySem.W.fnOf "number_in" "number_in" (defArgs s_number_in) (defBody s_number_in) (defScope s_number_in) .none kV_number_in dc_number_in pm_number_in an_number_in cd_number_in ct_number_in), sl_number_in⟩) (c_number_in : PySem.W.codeIn K cd_number_in "number_in" = true) (k_number_in : PySem.W.keepIn K (.ref f_number_in) = true)
    (a_way_in : PySem.W.nsIn K mainGlobals "way_in" = some (some (.ref f_way_in))) (l_way_in : K.lookup f_way_in = some ⟨oc_way_in, od_way_in, .func (PySem.W.fnOf "way_in" "way_in" (defArgs s_way_in) (defBody s_way_in) (defScope s_way_in) .none kV_way_in dc_way_in pm_way_in an_way_in cd_way_in ct_way_in), sl_way_in⟩) (c_way_in : PySem.W.codeIn K cd_way_in "way_in" = true) (k_way_in : PySem.W.keepIn K (.ref f_way_in) = true)
    (a_word_in : PySem.W.nsIn K mainGlobals "word_in" = some (some (.ref f_word_in))) (l_word_in : K.lookup f_word_in = some ⟨oc_word_in, od_word_in, .func (PySem.W.fnOf "word_in" "word_in" (defArgs s_word_in) (defBody s_word_in) (defScope s_word_in) .none kV_word_in dc_word_in pm_word_in an_word_in cd_word_in ct_word_in), sl_word_in⟩) (c_word_in : PySem.W.codeIn K cd_word_in "word_in" = true) (k_word_in : PySem.W.keepIn K (.ref f_word_in) = true)
    (a_rank : PySem.W.nsIn K mainGlobals "rank" = some (some (.ref f_rank))) (l_rank : K.lookup f_rank = some ⟨oc_rank, od_rank, .func (PySem.W.fnOf "rank" "rank" (defArgs s_rank) (defBody s_rank) (defScope s_rank) .none kV_rank dc_rank pm_rank an_rank cd_rank ct_rank), sl_rank⟩) (c_rank : PySem.W.codeIn K cd_rank "rank" = true) (k_rank : PySem.W.keepIn K (.ref f_rank) = true)
    (a_read_sum : PySem.W.nsIn K mainGlobals "read_sum" = some (some (.ref f_read_sum))) (l_read_sum : K.lookup f_read_sum = some ⟨oc_read_sum, od_read_sum, .func (PySem.W.fnOf "read_sum" "read_sum" (defArgs s_read_sum) (defBody s_read_sum) (defScope s_read_sum) .none kV_read_sum dc_read_sum pm_read_sum an_read_sum cd_read_sum ct_read_sum), sl_read_sum⟩) (c_read_sum : PySem.W.codeIn K cd_read_sum "read_sum" = true) (k_read_sum : PySem.W.keepIn K (.ref f_read_sum) = true)
    (a__law_well : PySem.W.nsIn K mainGlobals "_law_well" = some (some (.ref f__law_well))) (l__law_well : K.lookup f__law_well = some ⟨oc__law_well, od__law_well, .func (PySem.W.fnOf "_law_well" "_law_well" (defArgs s__law_well) (defBody s__law_well) (defScope s__law_well) .none kV__law_well dc__law_well pm__law_well an__law_well cd__law_well ct__law_well), sl__law_well⟩) (c__law_well : PySem.W.codeIn K cd__law_well "_law_well" = true) (k__law_well : PySem.W.keepIn K (.ref f__law_well) = true)
    (a__law_mixed : PySem.W.nsIn K mainGlobals "_law_mixed" = some (some (.ref f__law_mixed))) (l__law_mixed : K.lookup f__law_mixed = some ⟨oc__law_mixed, od__law_mixed, .func (PySem.W.fnOf "_law_mixed" "_law_mixed" (defArgs s__law_mixed) (defBody s__law_mixed) (defScope s__law_mixed) .none kV__law_mixed dc__law_mixed pm__law_mixed an__law_mixed cd__law_mixed ct__law_mixed), sl__law_mixed⟩) (c__law_mixed : PySem.W.codeIn K cd__law_mixed "_law_mixed" = true) (k__law_mixed : PySem.W.keepIn K (.ref f__law_mixed) = true)
    (a__law_purse : PySem.W.nsIn K mainGlobals "_law_purse" = some (some (.ref f__law_purse))) (l__law_purse : K.lookup f__law_purse = some ⟨oc__law_purse, od__law_purse, .func (PySem.W.fnOf "_law_purse" "_law_purse" (defArgs s__law_purse) (defBody s__law_purse) (defScope s__law_purse) .none kV__law_purse dc__law_purse pm__law_purse an__law_purse cd__law_purse ct__law_purse), sl__law_purse⟩) (c__law_purse : PySem.W.codeIn K cd__law_purse "_law_purse" = true) (k__law_purse : PySem.W.keepIn K (.ref f__law_purse) = true)
    (a__law_take : PySem.W.nsIn K mainGlobals "_law_take" = some (some (.ref f__law_take))) (l__law_take : K.lookup f__law_take = some ⟨oc__law_take, od__law_take, .func (PySem.W.fnOf "_law_take" "_law_take" (defArgs s__law_take) (defBody s__law_take) (defScope s__law_take) .none kV__law_take dc__law_take pm__law_take an__law_take cd__law_take ct__law_take), sl__law_take⟩) (c__law_take : PySem.W.codeIn K cd__law_take "_law_take" = true) (k__law_take : PySem.W.keepIn K (.ref f__law_take) = true)
    (a__law_low : PySem.W.nsIn K mainGlobals "_law_low" = some (some (.ref f__law_low))) (l__law_low : K.lookup f__law_low = some ⟨oc__law_low, od__law_low, .func (PySem.W.fnOf "_law_low" "_law_low" (defArgs s__law_low) (defBody s__law_low) (defScope s__law_low) .none kV__law_low dc__law_low pm__law_low an__law_low cd__law_low ct__law_low), sl__law_low⟩) (c__law_low : PySem.W.codeIn K cd__law_low "_law_low" = true) (k__law_low : PySem.W.keepIn K (.ref f__law_low) = true)
    (a__law_nine : PySem.W.nsIn K mainGlobals "_law_nine" = some (some (.ref f__law_nine))) (l__law_nine : K.lookup f__law_nine = some ⟨oc__law_nine, od__law_nine, .func (PySem.W.fnOf "_law_nine" "_law_nine" (defArgs s__law_nine) (defBody s__law_nine) (defScope s__law_nine) .none kV__law_nine dc__law_nine pm__law_nine an__law_nine cd__law_nine ct__law_nine), sl__law_nine⟩) (c__law_nine : PySem.W.codeIn K cd__law_nine "_law_nine" = true) (k__law_nine : PySem.W.keepIn K (.ref f__law_nine) = true)
    (a__law_rank : PySem.W.nsIn K mainGlobals "_law_rank" = some (some (.ref f__law_rank))) (l__law_rank : K.lookup f__law_rank = some ⟨oc__law_rank, od__law_rank, .func (PySem.W.fnOf "_law_rank" "_law_rank" (defArgs s__law_rank) (defBody s__law_rank) (defScope s__law_rank) .none kV__law_rank dc__law_rank pm__law_rank an__law_rank cd__law_rank ct__law_rank), sl__law_rank⟩) (c__law_rank : PySem.W.codeIn K cd__law_rank "_law_rank" = true) (k__law_rank : PySem.W.keepIn K (.ref f__law_rank) = true)
    (a__law_sum : PySem.W.nsIn K mainGlobals "_law_sum" = some (some (.ref f__law_sum))) (l__law_sum : K.lookup f__law_sum = some ⟨oc__law_sum, od__law_sum, .func (PySem.W.fnOf "_law_sum" "_law_sum" (defArgs s__law_sum) (defBody s__law_sum) (defScope s__law_sum) .none kV__law_sum dc__law_sum pm__law_sum an__law_sum cd__law_sum ct__law_sum), sl__law_sum⟩) (c__law_sum : PySem.W.codeIn K cd__law_sum "_law_sum" = true) (k__law_sum : PySem.W.keepIn K (.ref f__law_sum) = true)
    (a_word_text : PySem.W.nsIn K mainGlobals "word_text" = some (some (.ref f_word_text))) (l_word_text : K.lookup f_word_text = some ⟨oc_word_text, od_word_text, .func (PySem.W.fnOf "word_text" "word_text" (defArgs s_word_text) (defBody s_word_text) (defScope s_word_text) .none kV_word_text dc_word_text pm_word_text an_word_text cd_word_text ct_word_text), sl_word_text⟩) (c_word_text : PySem.W.codeIn K cd_word_text "word_text" = true) (k_word_text : PySem.W.keepIn K (.ref f_word_text) = true)
    (a_number_text : PySem.W.nsIn K mainGlobals "number_text" = some (some (.ref f_number_text))) (l_number_text : K.lookup f_number_text = some ⟨oc_number_text, od_number_text, .func (PySem.W.fnOf "number_text" "number_text" (defArgs s_number_text) (defBody s_number_text) (defScope s_number_text) .none kV_number_text dc_number_text pm_number_text an_number_text cd_number_text ct_number_text), sl_number_text⟩) (c_number_text : PySem.W.codeIn K cd_number_text "number_text" = true) (k_number_text : PySem.W.keepIn K (.ref f_number_text) = true)
    (a_sum_text : PySem.W.nsIn K mainGlobals "sum_text" = some (some (.ref f_sum_text))) (l_sum_text : K.lookup f_sum_text = some ⟨oc_sum_text, od_sum_text, .func (PySem.W.fnOf "sum_text" "sum_text" (defArgs s_sum_text) (defBody s_sum_text) (defScope s_sum_text) .none kV_sum_text dc_sum_text pm_sum_text an_sum_text cd_sum_text ct_sum_text), sl_sum_text⟩) (c_sum_text : PySem.W.codeIn K cd_sum_text "sum_text" = true) (k_sum_text : PySem.W.keepIn K (.ref f_sum_text) = true)
    (a__law_at : PySem.W.nsIn K mainGlobals "_law_at" = some (some (.ref f__law_at))) (l__law_at : K.lookup f__law_at = some ⟨oc__law_at, od__law_at, .func (PySem.W.fnOf "_law_at" "_law_at" (defArgs s__law_at) (defBody s__law_at) (defScope s__law_at) .none kV__law_at dc__law_at pm__law_at an__law_at cd__law_at ct__law_at), sl__law_at⟩) (c__law_at : PySem.W.codeIn K cd__law_at "_law_at" = true) (k__law_at : PySem.W.keepIn K (.ref f__law_at) = true)
    (a__law_word_text : PySem.W.nsIn K mainGlobals "_law_word_text" = some (some (.ref f__law_word_text))) (l__law_word_text : K.lookup f__law_word_text = some ⟨oc__law_word_text, od__law_word_text, .func (PySem.W.fnOf "_law_word_text" "_law_word_text" (defArgs s__law_word_text) (defBody s__law_word_text) (defScope s__law_word_text) .none kV__law_word_text dc__law_word_text pm__law_word_text an__law_word_text cd__law_word_text ct__law_word_text), sl__law_word_text⟩) (c__law_word_text : PySem.W.codeIn K cd__law_word_text "_law_word_text" = true) (k__law_word_text : PySem.W.keepIn K (.ref f__law_word_text) = true)
    (a__law_number_text : PySem.W.nsIn K mainGlobals "_law_number_text" = some (some (.ref f__law_number_text))) (l__law_number_text : K.lookup f__law_number_text = some ⟨oc__law_number_text, od__law_number_text, .func (PySem.W.fnOf "_law_number_text" "_law_number_text" (defArgs s__law_number_text) (defBody s__law_number_text) (defScope s__law_number_text) .none kV__law_number_text dc__law_number_text pm__law_number_text an__law_number_text cd__law_number_text ct__law_number_text), sl__law_number_text⟩) (c__law_number_text : PySem.W.codeIn K cd__law_number_text "_law_number_text" = true) (k__law_number_text : PySem.W.keepIn K (.ref f__law_number_text) = true)
    (a__law_sum_text : PySem.W.nsIn K mainGlobals "_law_sum_text" = some (some (.ref f__law_sum_text))) (l__law_sum_text : K.lookup f__law_sum_text = some ⟨oc__law_sum_text, od__law_sum_text, .func (PySem.W.fnOf "_law_sum_text" "_law_sum_text" (defArgs s__law_sum_text) (defBody s__law_sum_text) (defScope s__law_sum_text) .none kV__law_sum_text dc__law_sum_text pm__law_sum_text an__law_sum_text cd__law_sum_text ct__law_sum_text), sl__law_sum_text⟩) (c__law_sum_text : PySem.W.codeIn K cd__law_sum_text "_law_sum_text" = true) (k__law_sum_text : PySem.W.keepIn K (.ref f__law_sum_text) = true)
    (a__law_word_rank : PySem.W.nsIn K mainGlobals "_law_word_rank" = some (some (.ref f__law_word_rank))) (l__law_word_rank : K.lookup f__law_word_rank = some ⟨oc__law_word_rank, od__law_word_rank, .func (PySem.W.fnOf "_law_word_rank" "_law_word_rank" (defArgs s__law_word_rank) (defBody s__law_word_rank) (defScope s__law_word_rank) .none kV__law_word_rank dc__law_word_rank pm__law_word_rank an__law_word_rank cd__law_word_rank ct__law_word_rank), sl__law_word_rank⟩) (c__law_word_rank : PySem.W.codeIn K cd__law_word_rank "_law_word_rank" = true) (k__law_word_rank : PySem.W.keepIn K (.ref f__law_word_rank) = true)
    (a__law_great_well : PySem.W.nsIn K mainGlobals "_law_great_well" = some (some (.ref f__law_great_well))) (l__law_great_well : K.lookup f__law_great_well = some ⟨oc__law_great_well, od__law_great_well, .func (PySem.W.fnOf "_law_great_well" "_law_great_well" (defArgs s__law_great_well) (defBody s__law_great_well) (defScope s__law_great_well) .none kV__law_great_well dc__law_great_well pm__law_great_well an__law_great_well cd__law_great_well ct__law_great_well), sl__law_great_well⟩) (c__law_great_well : PySem.W.codeIn K cd__law_great_well "_law_great_well" = true) (k__law_great_well : PySem.W.keepIn K (.ref f__law_great_well) = true)
    (a__law_mixed_up : PySem.W.nsIn K mainGlobals "_law_mixed_up" = some (some (.ref f__law_mixed_up))) (l__law_mixed_up : K.lookup f__law_mixed_up = some ⟨oc__law_mixed_up, od__law_mixed_up, .func (PySem.W.fnOf "_law_mixed_up" "_law_mixed_up" (defArgs s__law_mixed_up) (defBody s__law_mixed_up) (defScope s__law_mixed_up) .none kV__law_mixed_up dc__law_mixed_up pm__law_mixed_up an__law_mixed_up cd__law_mixed_up ct__law_mixed_up), sl__law_mixed_up⟩) (c__law_mixed_up : PySem.W.codeIn K cd__law_mixed_up "_law_mixed_up" = true) (k__law_mixed_up : PySem.W.keepIn K (.ref f__law_mixed_up) = true)
    (a_law : PySem.W.nsIn K mainGlobals "law" = some (some (.ref f_law))) (l_law : K.lookup f_law = some ⟨oc_law, od_law, .func (PySem.W.fnOf "law" "law" (defArgs s_law) (defBody s_law) (defScope s_law) .none kV_law dc_law pm_law an_law cd_law ct_law), sl_law⟩) (c_law : PySem.W.codeIn K cd_law "law" = true) (k_law : PySem.W.keepIn K (.ref f_law) = true)
    (z_abs : PySem.W.nsIn K mainGlobals "abs" = some none)
    (z_bool : PySem.W.nsIn K mainGlobals "bool" = some none)
    (z_enumerate : PySem.W.nsIn K mainGlobals "enumerate" = some none)
    (z_int : PySem.W.nsIn K mainGlobals "int" = some none)
    (z_isinstance : PySem.W.nsIn K mainGlobals "isinstance" = some none)
    (z_len : PySem.W.nsIn K mainGlobals "len" = some none)
    (z_list : PySem.W.nsIn K mainGlobals "list" = some none)
    (z_range : PySem.W.nsIn K mainGlobals "range" = some none)
    (z_sorted : PySem.W.nsIn K mainGlobals "sorted" = some none)
    (z_str : PySem.W.nsIn K mainGlobals "str" = some none)
    (z_tuple : PySem.W.nsIn K mainGlobals "tuple" = some none)
    (y_FIGURES : Konst K mg "FIGURES" k_FIGURES)
    (y_MOST_FIGURES : Konst K mg "MOST_FIGURES" k_MOST_FIGURES)
    (y_MOST_WAYS : Konst K mg "MOST_WAYS" k_MOST_WAYS) :
    ∃ fd : FuncData, (∀ (s : Shared) (v : Value), BindsTo s fd ⟨[v], []⟩ [("_law_script", v)]) ∧ ∀ base : Heap, K.In base → base.Ns mainGlobals mg → FnOk l.prog w K mg base (L2.CX l.prog w) 39 fa fd ["_law_script"] (specL K m_law) := by
  have e := hfa.symm.trans (PySem.W.mg_of X G a_law)
  cases e
  have F_figures_in := fun_mk (st := s_figures_in) l_figures_in c_figures_in k_figures_in
  have F_whole_in := fun_mk (st := s_whole_in) l_whole_in c_whole_in k_whole_in
  have F_is_whole := fun_mk (st := s_is_whole) l_is_whole c_is_whole k_is_whole
  have F_divisor := fun_mk (st := s_divisor) l_divisor c_divisor k_divisor
  have F_is_number := fun_mk (st := s_is_number) l_is_number c_is_number k_is_number
  have F_number_in := fun_mk (st := s_number_in) l_number_in c_number_in k_number_in
  have F_way_in := fun_mk (st := s_way_in) l_way_in c_way_in k_way_in
  have F_word_in := fun_mk (st := s_word_in) l_word_in c_word_in k_word_in
  have F_rank := fun_mk (st := s_rank) l_rank c_rank k_rank
  have F_read_sum := fun_mk (st := s_read_sum) l_read_sum c_read_sum k_read_sum
  have F__law_well := fun_mk (st := s__law_well) l__law_well c__law_well k__law_well
  have F__law_mixed := fun_mk (st := s__law_mixed) l__law_mixed c__law_mixed k__law_mixed
  have F__law_purse := fun_mk (st := s__law_purse) l__law_purse c__law_purse k__law_purse
  have F__law_take := fun_mk (st := s__law_take) l__law_take c__law_take k__law_take
  have F__law_low := fun_mk (st := s__law_low) l__law_low c__law_low k__law_low
  have F__law_nine := fun_mk (st := s__law_nine) l__law_nine c__law_nine k__law_nine
  have F__law_rank := fun_mk (st := s__law_rank) l__law_rank c__law_rank k__law_rank
  have F__law_sum := fun_mk (st := s__law_sum) l__law_sum c__law_sum k__law_sum
  have F_word_text := fun_mk (st := s_word_text) l_word_text c_word_text k_word_text
  have F_number_text := fun_mk (st := s_number_text) l_number_text c_number_text k_number_text
  have F_sum_text := fun_mk (st := s_sum_text) l_sum_text c_sum_text k_sum_text
  have F__law_at := fun_mk (st := s__law_at) l__law_at c__law_at k__law_at
  have F__law_word_text := fun_mk (st := s__law_word_text) l__law_word_text c__law_word_text k__law_word_text
  have F__law_number_text := fun_mk (st := s__law_number_text) l__law_number_text c__law_number_text k__law_number_text
  have F__law_sum_text := fun_mk (st := s__law_sum_text) l__law_sum_text c__law_sum_text k__law_sum_text
  have F__law_word_rank := fun_mk (st := s__law_word_rank) l__law_word_rank c__law_word_rank k__law_word_rank
  have F__law_great_well := fun_mk (st := s__law_great_well) l__law_great_well c__law_great_well k__law_great_well
  have F__law_mixed_up := fun_mk (st := s__law_mixed_up) l__law_mixed_up c__law_mixed_up k__law_mixed_up
  have F_law := fun_mk (st := s_law) l_law c_law k_law
  have b_figures_in := F_figures_in.binds (ps := ["text"]) fun _ _ _ _ _ _ us hl => match us, hl with | [_], _ => rfl
  have b_whole_in := F_whole_in.binds (ps := ["text"]) fun _ _ _ _ _ _ us hl => match us, hl with | [_], _ => rfl
  have b_is_whole := F_is_whole.binds (ps := ["one"]) fun _ _ _ _ _ _ us hl => match us, hl with | [_], _ => rfl
  have b_divisor := F_divisor.binds (ps := ["one", "other"]) fun _ _ _ _ _ _ us hl => match us, hl with | [_, _], _ => rfl
  have b_is_number := F_is_number.binds (ps := ["one"]) fun _ _ _ _ _ _ us hl => match us, hl with | [_], _ => rfl
  have b_number_in := F_number_in.binds (ps := ["text"]) fun _ _ _ _ _ _ us hl => match us, hl with | [_], _ => rfl
  have b_way_in := F_way_in.binds (ps := ["text", "count"]) fun _ _ _ _ _ _ us hl => match us, hl with | [_, _], _ => rfl
  have b_word_in := F_word_in.binds (ps := ["text", "count"]) fun _ _ _ _ _ _ us hl => match us, hl with | [_, _], _ => rfl
  have b_rank := F_rank.binds (ps := ["word"]) fun _ _ _ _ _ _ us hl => match us, hl with | [_], _ => rfl
  have b_read_sum := F_read_sum.binds (ps := ["text", "count"]) fun _ _ _ _ _ _ us hl => match us, hl with | [_, _], _ => rfl
  have b__law_well := F__law_well.binds (ps := ["_law_total", "_law_count", "_law_text"]) fun _ _ _ _ _ _ us hl => match us, hl with | [_, _, _], _ => rfl
  have b__law_mixed := F__law_mixed.binds (ps := ["_law_cell", "_law_k"]) fun _ _ _ _ _ _ us hl => match us, hl with | [_, _], _ => rfl
  have b__law_purse := F__law_purse.binds (ps := ["_law_cell", "_law_k"]) fun _ _ _ _ _ _ us hl => match us, hl with | [_, _], _ => rfl
  have b__law_take := F__law_take.binds (ps := ["_law_purse_here", "_law_many"]) fun _ _ _ _ _ _ us hl => match us, hl with | [_, _], _ => rfl
  have b__law_low := F__law_low.binds (ps := ["_law_top", "_law_bottom"]) fun _ _ _ _ _ _ us hl => match us, hl with | [_, _], _ => rfl
  have b__law_nine := F__law_nine.binds (ps := ["_law_purse_here"]) fun _ _ _ _ _ _ us hl => match us, hl with | [_], _ => rfl
  have b__law_rank := F__law_rank.binds (ps := ["_law_word"]) fun _ _ _ _ _ _ us hl => match us, hl with | [_], _ => rfl
  have b__law_sum := F__law_sum.binds (ps := ["_law_purse_here", "_law_count", "_law_most"]) fun _ _ _ _ _ _ us hl => match us, hl with | [_, _, _], _ => rfl
  have b_word_text := F_word_text.binds (ps := ["word"]) fun _ _ _ _ _ _ us hl => match us, hl with | [_], _ => rfl
  have b_number_text := F_number_text.binds (ps := ["number"]) fun _ _ _ _ _ _ us hl => match us, hl with | [_], _ => rfl
  have b_sum_text := F_sum_text.binds (ps := ["total"]) fun _ _ _ _ _ _ us hl => match us, hl with | [_], _ => rfl
  have b__law_at := F__law_at.binds (ps := ["_law_script", "_law_k"]) fun _ _ _ _ _ _ us hl => match us, hl with | [_, _], _ => rfl
  have b__law_word_text := F__law_word_text.binds (ps := ["_law_word"]) fun _ _ _ _ _ _ us hl => match us, hl with | [_], _ => rfl
  have b__law_number_text := F__law_number_text.binds (ps := ["_law_number"]) fun _ _ _ _ _ _ us hl => match us, hl with | [_], _ => rfl
  have b__law_sum_text := F__law_sum_text.binds (ps := ["_law_total"]) fun _ _ _ _ _ _ us hl => match us, hl with | [_], _ => rfl
  have b__law_word_rank := F__law_word_rank.binds (ps := ["_law_term"]) fun _ _ _ _ _ _ us hl => match us, hl with | [_], _ => rfl
  have b__law_great_well := F__law_great_well.binds (ps := ["_law_purse_here", "_law_total"]) fun _ _ _ _ _ _ us hl => match us, hl with | [_, _], _ => rfl
  have b__law_mixed_up := F__law_mixed_up.binds (ps := ["_law_total", "_law_purse_here"]) fun _ _ _ _ _ _ us hl => match us, hl with | [_, _], _ => rfl
  have b_law := F_law.binds (ps := ["_law_script"]) fun _ _ _ _ _ _ us hl => match us, hl with | [_], _ => rfl
  refine ⟨PySem.W.fnOf "law" "law" (defArgs s_law) (defBody s_law) (defScope s_law) .none kV_law dc_law pm_law an_law cd_law ct_law, fun s v => .of_eq rfl, fun base _ _ => (@ok_law l.prog w K mg base {
    seer := seer, tree := tree,
    a_figures_in := _, d_figures_in := _, F_figures_in := F_figures_in, g_figures_in := PySem.W.mg_of X G a_figures_in, k_figures_in := k_figures_in, b_figures_in := b_figures_in,
    a_whole_in := _, d_whole_in := _, F_whole_in := F_whole_in, g_whole_in := PySem.W.mg_of X G a_whole_in, k_whole_in := k_whole_in, b_whole_in := b_whole_in,
    a_is_whole := _, d_is_whole := _, F_is_whole := F_is_whole, g_is_whole := PySem.W.mg_of X G a_is_whole, k_is_whole := k_is_whole, b_is_whole := b_is_whole,
    a_divisor := _, d_divisor := _, F_divisor := F_divisor, g_divisor := PySem.W.mg_of X G a_divisor, k_divisor := k_divisor, b_divisor := b_divisor,
    a_is_number := _, d_is_number := _, F_is_number := F_is_number, g_is_number := PySem.W.mg_of X G a_is_number, k_is_number := k_is_number, b_is_number := b_is_number,
    a_number_in := _, d_number_in := _, F_number_in := F_number_in, g_number_in := PySem.W.mg_of X G a_number_in, k_number_in := k_number_in, b_number_in := b_number_in,
    a_way_in := _, d_way_in := _, F_way_in := F_way_in, g_way_in := PySem.W.mg_of X G a_way_in, k_way_in := k_way_in, b_way_in := b_way_in,
    a_word_in := _, d_word_in := _, F_word_in := F_word_in, g_word_in := PySem.W.mg_of X G a_word_in, k_word_in := k_word_in, b_word_in := b_word_in,
    a_rank := _, d_rank := _, F_rank := F_rank, g_rank := PySem.W.mg_of X G a_rank, k_rank := k_rank, b_rank := b_rank,
    a_read_sum := _, d_read_sum := _, F_read_sum := F_read_sum, g_read_sum := PySem.W.mg_of X G a_read_sum, k_read_sum := k_read_sum, b_read_sum := b_read_sum,
    a__law_well := _, d__law_well := _, F__law_well := F__law_well, g__law_well := PySem.W.mg_of X G a__law_well, k__law_well := k__law_well, b__law_well := b__law_well,
    a__law_mixed := _, d__law_mixed := _, F__law_mixed := F__law_mixed, g__law_mixed := PySem.W.mg_of X G a__law_mixed, k__law_mixed := k__law_mixed, b__law_mixed := b__law_mixed,
    a__law_purse := _, d__law_purse := _, F__law_purse := F__law_purse, g__law_purse := PySem.W.mg_of X G a__law_purse, k__law_purse := k__law_purse, b__law_purse := b__law_purse,
    a__law_take := _, d__law_take := _, F__law_take := F__law_take, g__law_take := PySem.W.mg_of X G a__law_take, k__law_take := k__law_take, b__law_take := b__law_take,
    a__law_low := _, d__law_low := _, F__law_low := F__law_low, g__law_low := PySem.W.mg_of X G a__law_low, k__law_low := k__law_low, b__law_low := b__law_low,
    a__law_nine := _, d__law_nine := _, F__law_nine := F__law_nine, g__law_nine := PySem.W.mg_of X G a__law_nine, k__law_nine := k__law_nine, b__law_nine := b__law_nine,
    a__law_rank := _, d__law_rank := _, F__law_rank := F__law_rank, g__law_rank := PySem.W.mg_of X G a__law_rank, k__law_rank := k__law_rank, b__law_rank := b__law_rank,
    a__law_sum := _, d__law_sum := _, F__law_sum := F__law_sum, g__law_sum := PySem.W.mg_of X G a__law_sum, k__law_sum := k__law_sum, b__law_sum := b__law_sum,
    a_word_text := _, d_word_text := _, F_word_text := F_word_text, g_word_text := PySem.W.mg_of X G a_word_text, k_word_text := k_word_text, b_word_text := b_word_text,
    a_number_text := _, d_number_text := _, F_number_text := F_number_text, g_number_text := PySem.W.mg_of X G a_number_text, k_number_text := k_number_text, b_number_text := b_number_text,
    a_sum_text := _, d_sum_text := _, F_sum_text := F_sum_text, g_sum_text := PySem.W.mg_of X G a_sum_text, k_sum_text := k_sum_text, b_sum_text := b_sum_text,
    a__law_at := _, d__law_at := _, F__law_at := F__law_at, g__law_at := PySem.W.mg_of X G a__law_at, k__law_at := k__law_at, b__law_at := b__law_at,
    a__law_word_text := _, d__law_word_text := _, F__law_word_text := F__law_word_text, g__law_word_text := PySem.W.mg_of X G a__law_word_text, k__law_word_text := k__law_word_text, b__law_word_text := b__law_word_text,
    a__law_number_text := _, d__law_number_text := _, F__law_number_text := F__law_number_text, g__law_number_text := PySem.W.mg_of X G a__law_number_text, k__law_number_text := k__law_number_text, b__law_number_text := b__law_number_text,
    a__law_sum_text := _, d__law_sum_text := _, F__law_sum_text := F__law_sum_text, g__law_sum_text := PySem.W.mg_of X G a__law_sum_text, k__law_sum_text := k__law_sum_text, b__law_sum_text := b__law_sum_text,
    a__law_word_rank := _, d__law_word_rank := _, F__law_word_rank := F__law_word_rank, g__law_word_rank := PySem.W.mg_of X G a__law_word_rank, k__law_word_rank := k__law_word_rank, b__law_word_rank := b__law_word_rank,
    a__law_great_well := _, d__law_great_well := _, F__law_great_well := F__law_great_well, g__law_great_well := PySem.W.mg_of X G a__law_great_well, k__law_great_well := k__law_great_well, b__law_great_well := b__law_great_well,
    a__law_mixed_up := _, d__law_mixed_up := _, F__law_mixed_up := F__law_mixed_up, g__law_mixed_up := PySem.W.mg_of X G a__law_mixed_up, k__law_mixed_up := k__law_mixed_up, b__law_mixed_up := b__law_mixed_up,
    a_law := _, d_law := _, F_law := F_law, g_law := PySem.W.mg_of X G a_law, k_law := k_law, b_law := b_law,
    z_abs := PySem.W.mg_none_of X G z_abs,
    z_bool := PySem.W.mg_none_of X G z_bool,
    z_enumerate := PySem.W.mg_none_of X G z_enumerate,
    z_int := PySem.W.mg_none_of X G z_int,
    z_isinstance := PySem.W.mg_none_of X G z_isinstance,
    z_len := PySem.W.mg_none_of X G z_len,
    z_list := PySem.W.mg_none_of X G z_list,
    z_range := PySem.W.mg_none_of X G z_range,
    z_sorted := PySem.W.mg_none_of X G z_sorted,
    z_str := PySem.W.mg_none_of X G z_str,
    z_tuple := PySem.W.mg_none_of X G z_tuple,
    c_FIGURES := y_FIGURES,
    c_MOST_FIGURES := y_MOST_FIGURES,
    c_MOST_WAYS := y_MOST_WAYS }).imp specL_imp⟩
theorem facts {w : World} {K : PySem.W.Frag} {h : Heap} {mg : Str → Option Value} {fa : Addr} (X : K.In h) (G : h.Ns mainGlobals mg) (hfa : mg "law" = some (.ref fa)) (c : SaysS fk fns K) :
    ∃ fd : FuncData, (∀ (s : Shared) (v : Value), BindsTo s fd ⟨[v], []⟩ [("_law_script", v)]) ∧ ∀ base : Heap, K.In base → base.Ns mainGlobals mg → FnOk PySem.Challenge.rw_swaprest_k79_sum_texts.prog w K mg base (L2.CX PySem.Challenge.rw_swaprest_k79_sum_texts.prog w) 39 fa fd ["_law_script"] (specL K m_law) := by
  have hf := c.fkt
  unfold fk at hf
  simp only [Bool.and_eq_true] at hf
  obtain ⟨q0, q1, q2⟩ := hf
  obtain ⟨h_seer, h_a_figures_in, h_k_figures_in, h_a_whole_in, h_k_whole_in, h_a_is_whole, h_k_is_whole, h_a_divisor, h_k_divisor, h_a_is_number, h_k_is_number, h_a_number_in, h_k_number_in, h_a_way_in, h_k_way_in, h_a_word_in, h_k_word_in, h_a_rank, h_k_rank, h_a_read_sum, h_k_read_sum, h_a__law_well, h_k__law_well, h_a__law_mixed, h_k__law_mixed, _⟩ := (of_decide_eq_true q0 : P0 K)
  obtain ⟨h_a__law_purse, h_k__law_purse, h_a__law_take, h_k__law_take, h_a__law_low, h_k__law_low, h_a__law_nine, h_k__law_nine, h_a__law_rank, h_k__law_rank, h_a__law_sum, h_k__law_sum, h_a_word_text, h_k_word_text, h_a_number_text, h_k_number_text, h_a_sum_text, h_k_sum_text, h_a__law_at, h_k__law_at, h_a__law_word_text, h_k__law_word_text, h_a__law_number_text, h_k__law_number_text, h_a__law_sum_text, _⟩ := (of_decide_eq_true q1 : P1 K)
  obtain ⟨h_k__law_sum_text, h_a__law_word_rank, h_k__law_word_rank, h_a__law_great_well, h_k__law_great_well, h_a__law_mixed_up, h_k__law_mixed_up, h_a_law, h_k_law, h_z_abs, h_z_bool, h_z_enumerate, h_z_int, h_z_isinstance, h_z_len, h_z_list, h_z_range, h_z_sorted, h_z_str, h_z_tuple, h_y_FIGURES, h_y_MOST_FIGURES, h_y_MOST_WAYS, _⟩ := (of_decide_eq_true q2 : P2 K)
  obtain ⟨_, _, _, _, _, _, _, _, _, l_figures_in, c_figures_in⟩ := c.def_ 0 (d := D_figures_in) rfl
  obtain ⟨_, _, _, _, _, _, _, _, _, l_whole_in, c_whole_in⟩ := c.def_ 1 (d := D_whole_in) rfl
  obtain ⟨_, _, _, _, _, _, _, _, _, l_is_whole, c_is_whole⟩ := c.def_ 2 (d := D_is_whole) rfl
  obtain ⟨_, _, _, _, _, _, _, _, _, l_divisor, c_divisor⟩ := c.def_ 3 (d := D_divisor) rfl
  obtain ⟨_, _, _, _, _, _, _, _, _, l_is_number, c_is_number⟩ := c.def_ 4 (d := D_is_number) rfl
  obtain ⟨_, _, _, _, _, _, _, _, _, l_number_in, c_number_in⟩ := c.def_ 5 (d := D_number_in) rfl
  obtain ⟨_, _, _, _, _, _, _, _, _, l_way_in, c_way_in⟩ := c.def_ 6 (d := D_way_in) rfl
  obtain ⟨_, _, _, _, _, _, _, _, _, l_word_in, c_word_in⟩ := c.def_ 7 (d := D_word_in) rfl
  obtain ⟨_, _, _, _, _, _, _, _, _, l_rank, c_rank⟩ := c.def_ 8 (d := D_rank) rfl
  obtain ⟨_, _, _, _, _, _, _, _, _, l_read_sum, c_read_sum⟩ := c.def_ 9 (d := D_read_sum) rfl
  obtain ⟨_, _, _, _, _, _, _, _, _, l__law_well, c__law_well⟩ := c.def_ 10 (d := D__law_well) rfl
  obtain ⟨_, _, _, _, _, _, _, _, _, l__law_mixed, c__law_mixed⟩ := c.def_ 11 (d := D__law_mixed) rfl
  obtain ⟨_, _, _, _, _, _, _, _, _, l__law_purse, c__law_purse⟩ := c.def_ 12 (d := D__law_purse) rfl
  obtain ⟨_, _, _, _, _, _, _, _, _, l__law_take, c__law_take⟩ := c.def_ 13 (d := D__law_take) rfl
  obtain ⟨_, _, _, _, _, _, _, _, _, l__law_low, c__law_low⟩ := c.def_ 14 (d := D__law_low) rfl
  obtain ⟨_, _, _, _, _, _, _, _, _, l__law_nine, c__law_nine⟩ := c.def_ 15 (d := D__law_nine) rfl
  obtain ⟨_, _, _, _, _, _, _, _, _, l__law_rank, c__law_rank⟩ := c.def_ 16 (d := D__law_rank) rfl
  obtain ⟨_, _, _, _, _, _, _, _, _, l__law_sum, c__law_sum⟩ := c.def_ 17 (d := D__law_sum) rfl
  obtain ⟨_, _, _, _, _, _, _, _, _, l_word_text, c_word_text⟩ := c.def_ 18 (d := D_word_text) rfl
  obtain ⟨_, _, _, _, _, _, _, _, _, l_number_text, c_number_text⟩ := c.def_ 19 (d := D_number_text) rfl
  obtain ⟨_, _, _, _, _, _, _, _, _, l_sum_text, c_sum_text⟩ := c.def_ 20 (d := D_sum_text) rfl
  obtain ⟨_, _, _, _, _, _, _, _, _, l__law_at, c__law_at⟩ := c.def_ 21 (d := D__law_at) rfl
  obtain ⟨_, _, _, _, _, _, _, _, _, l__law_word_text, c__law_word_text⟩ := c.def_ 22 (d := D__law_word_text) rfl
  obtain ⟨_, _, _, _, _, _, _, _, _, l__law_number_text, c__law_number_text⟩ := c.def_ 23 (d := D__law_number_text) rfl
  obtain ⟨_, _, _, _, _, _, _, _, _, l__law_sum_text, c__law_sum_text⟩ := c.def_ 24 (d := D__law_sum_text) rfl
  obtain ⟨_, _, _, _, _, _, _, _, _, l__law_word_rank, c__law_word_rank⟩ := c.def_ 25 (d := D__law_word_rank) rfl
  obtain ⟨_, _, _, _, _, _, _, _, _, l__law_great_well, c__law_great_well⟩ := c.def_ 26 (d := D__law_great_well) rfl
  obtain ⟨_, _, _, _, _, _, _, _, _, l__law_mixed_up, c__law_mixed_up⟩ := c.def_ 27 (d := D__law_mixed_up) rfl
  obtain ⟨_, _, _, _, _, _, _, _, _, l_law, c_law⟩ := c.def_ 28 (d := D_law) rfl
  exact all_mk (l := PySem.Challenge.rw_swaprest_k79_sum_texts) X G hfa rfl (h_seer) (h_a_figures_in) l_figures_in c_figures_in (h_k_figures_in) (h_a_whole_in) l_whole_in c_whole_in (h_k_whole_in) (h_a_is_whole) l_is_whole c_is_whole (h_k_is_whole) (h_a_divisor) l_divisor c_divisor (h_k_divisor) (h_a_is_number) l_is_number c_is_number (h_k_is_number) (h_a_number_in) l_number_in c_number_in (h_k_number_in) (h_a_way_in) l_way_in c_way_in (h_k_way_in) (h_a_word_in) l_word_in c_word_in (h_k_word_in) (h_a_rank) l_rank c_rank (h_k_rank) (h_a_read_sum) l_read_sum c_read_sum (h_k_read_sum) (h_a__law_well) l__law_well c__law_well (h_k__law_well) (h_a__law_mixed) l__law_mixed c__law_mixed (h_k__law_mixed) (h_a__law_purse) l__law_purse c__law_purse (h_k__law_purse) (h_a__law_take) l__law_take c__law_take (h_k__law_take) (h_a__law_low) l__law_low c__law_low (h_k__law_low) (h_a__law_nine) l__law_nine c__law_nine (h_k__law_nine) (h_a__law_rank) l__law_rank c__law_rank (h_k__law_rank) (h_a__law_sum) l__law_sum c__law_sum (h_k__law_sum) (h_a_word_text) l_word_text c_word_text (h_k_word_text) (h_a_number_text) l_number_text c_number_text (h_k_number_text) (h_a_sum_text) l_sum_text c_sum_text (h_k_sum_text) (h_a__law_at) l__law_at c__law_at (h_k__law_at) (h_a__law_word_text) l__law_word_text c__law_word_text (h_k__law_word_text) (h_a__law_number_text) l__law_number_text c__law_number_text (h_k__law_number_text) (h_a__law_sum_text) l__law_sum_text c__law_sum_text (h_k__law_sum_text) (h_a__law_word_rank) l__law_word_rank c__law_word_rank (h_k__law_word_rank) (h_a__law_great_well) l__law_great_well c__law_great_well (h_k__law_great_well) (h_a__law_mixed_up) l__law_mixed_up c__law_mixed_up (h_k__law_mixed_up) (h_a_law) l_law c_law (h_k_law) (h_z_abs) (h_z_bool) (h_z_enumerate) (h_z_int) (h_z_isinstance) (h_z_len) (h_z_list) (h_z_range) (h_z_sorted) (h_z_str) (h_z_tuple) (konst_strB X G h_y_FIGURES) (konst_intB X G h_y_MOST_FIGURES) (konst_intB X G h_y_MOST_WAYS)
end Lw
open PySem PySem.W PySem.Calls PyProof.Rows
set_option maxHeartbeats 0 in
theorem PySem.Challenge.cw_swaprest_k79_sum_texts_holds : PySem.Challenge.rw_swaprest_k79_sum_texts.Holds := by
  w_on; o_law
  refine HandSHeadRun.head_any (r := (OpenLaw.row PySem.Challenge.rw_swaprest_k79_sum_texts)) (q := view (OpenLaw.row PySem.Challenge.rw_swaprest_k79_sum_texts).prog [41]) (H := Lw.hk) (ob := Lw.ob) (M := 20000) (loose := Lw.nms) (d := HandSHeadRun.topDef (OpenLaw.row PySem.Challenge.rw_swaprest_k79_sum_texts).prog 41) (kwd := []) Lw.ob_eq
    (by kernel_rfl) (fun s => by kernel_rfl) Lw.run (by kernel_rfl) (by kernel_rfl) (by kernel_rfl) (by rfl) (by first | assumption | decide +kernel) (by decide +kernel) ⟨rfl, rfl, rfl, rfl, rfl, by decide +kernel⟩ ?hw ?hc
  case hw => w_witness2
  case hc =>
    refine LamX.walk_ofTsE (l := PySem.Challenge.rw_swaprest_k79_sum_texts) (n := 63) (k := 39) (x := "_law_script") (CX := fun w => L2.CX PySem.Challenge.rw_swaprest_k79_sum_texts.prog w) rfl (by decide) (by kernel_rfl) ⟨rfl, by decide, by decide⟩ ?F (fun _ _ _ _ _ h => SW.cx_false h)
    intro w mg fa h Y G hmg0
    obtain ⟨K, KX, c⟩ := Y
    have hmg : mg ("law" : PySem.Str) = some (.ref fa) := by
      have e : (HandSHeadRun.topDef (OpenLaw.row PySem.Challenge.rw_swaprest_k79_sum_texts).prog 41).name = ("law" : PySem.Str) := by kernel_rfl
      rw [← e]
      exact hmg0
    obtain ⟨fd, hb, hF⟩ := Lw.facts (w := w) KX G hmg c
    exact ⟨K, KX, fd, [], SW.specL K Lw.m_law, (fun _ h => nomatch h), (fun _ h => nomatch h), (fun _ h => nomatch h), hb, fun H a ns hl _ _ hS => SW.law_specL Lw.law_true hl hS, fun base hK hN _ => hF base hK hN⟩


