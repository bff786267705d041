import PyProof.Rows.All
import HandS.Head0
import HandS.Head1
import HandS.Head2
import HandS.HeadEnd
import HandS.HeadHook1
import HandS.HeadHook2
import HandS.HeadWalk
import HandS.Words
import HandS.Exc
import HandS.ExcField
import PySem.Challenge.RW_swaprest_k57_letters_joined_and_cut
import HandS.ForMost
import HandS.ForExc
import HandS.IsInst
import HandS.Flow
import HandS.Wide
import HandS.Deep
import HandS.TupAny
import HandS.TupMul
import HandS.CallSlots
import KE.DataCmp
import KE.KDictKeyed
import HandS.NoneIn
import HandS.Zip
import HandS.More
import HandS.HeadHook4
import HandS.ExcIs
import HandS.ExcValue
import HandS.Iter
import HandS.TupLen
import HandS.SortKw
import KE.SortKeyHeap
import KE.KDictCopyH
import KE.KDictSum
import HandS.Keys
import KE.DataMinMax
import KE.SortData
import KE.KDictPairs
import KE.KRevSl
import PyProof.ExcBaseAll.ValueError
import HandS.ExcInit
import KE.KExcIs
import KE.KDictDisplayH
import KE.GoesEnum
import PyProof.ReprRoads
import PyProof.Rows.RegStrFacts
set_option Elab.async false
set_option linter.all false
set_option maxRecDepth 100000
/-! SW0: the program's top by one run of the kernel; the facts that a law's walk leans on, read by a hook. -/
namespace SW
open PySem PySem.Spec PyProof.Rows L2
/-- a def of a class's body -/
def clsS (s : Stmt) (j : Nat) : Stmt := match s with
  | .ClassDef _ _ _ b _ _ _ _ _ _ _ => b.getD j (.Pass ⟨0, 0, 0, 0⟩)
  | _ => .Pass ⟨0, 0, 0, 0⟩
def vBase : List Value := [.type "ValueError", .type "Exception", .type "BaseException", .type "object"]
def oexIn (K : PySem.W.Frag) (C : Addr) : Bool := match K.lookup C with
  | some ⟨.type "type", _, .cls cd, sl⟩ => (match cd.mro, sl.toList with
    | .ref C' :: bm, [_, _, _, _, some (.builtin n), _] => C' == C && n == "ValueError.__new__" && !cd.hasDel && cd.hasDict && PySem.HandSPX.refsVE bm
    | _, _ => false)
  | _ => false
/-! the module's facts that a division of great ints leans on -/
def strKeysB (es : Array DictEntry) : Bool := es.toList.all fun e => match e.key with
  | .str _ _ => true
  | _ => false
def noneAt (es : Array DictEntry) (x : Str) : Bool := (nsFind es x).isNone
def seerB (K : PySem.W.Frag) : Bool :=
  (match K.lookup cStatics with
  | some ⟨_, _, .dict es _, _⟩ => strKeysB es && (noneAt es "sys.audit-hooks" && noneAt es "sys.dict")
  | _ => false) &&
  ((match K.lookup sysModules with
  | some ⟨_, _, .dict es _, _⟩ => strKeysB es && noneAt es "_pylong"
  | _ => false) &&
  (match PySem.W.nsIn K mainGlobals "__builtins__" with
  | some (some (.ref bm)) => (match K.lookup bm with
    | some ⟨.type x, some d, _, _⟩ => (x == "module") && (d == builtinsNs)
    | _ => false)
  | _ => false))
abbrev AlS : Type := Bool × List He.FnV
def obsS (fk : PySem.W.Frag → Bool) (fn : List He.FnD) (K : PySem.W.Frag) : AlS := (fk K && fn.all fun d => (He.Fa.code d.at_ d.qual).ok K, fn.map fun d => He.fnObs K d.at_)
def valS (fn : List He.FnD) : AlS := (true, fn.map He.FnD.val)
def SaysS (fk : PySem.W.Frag → Bool) (fn : List He.FnD) (K : PySem.W.Frag) : Prop := obsS fk fn K = valS fn
def obsSG (n : Nat) (fk : PySem.W.Frag → Bool) (fn : List He.FnD) (g : Addr → Option Obj) : AlS := obsS fk fn (He.frG g (cStatics :: sysModules :: He.asG g n))
def hookS (n : Nat) (fk : PySem.W.Frag → Bool) (fn : List He.FnD) : PySem.W.Hook where
  α := AlS
  obs := fun s => obsSG n fk fn s.heap.get?
  val := fun _ => valS fn
  says := fun _ h => ∃ K : PySem.W.Frag, K.In h ∧ SaysS fk fn K
  of := fun _ _ e => ⟨_, He.frG_in, e⟩
  keeps := fun _ _ _ ⟨K, hK, c⟩ k => ⟨K, PySem.W.Frag.In.keeps hK k, c⟩
theorem obsSG_eq {n : Nat} {fk : PySem.W.Frag → Bool} {fn : List He.FnD} {g : Addr → Option Obj} {s : Shared} (h : ∀ a, g a = s.heap.get? a) : obsSG n fk fn g = (hookS n fk fn).obs s := by
  have e : g = s.heap.get? := funext h
  rw [e] <;> rfl
section
variable {fk : PySem.W.Frag → Bool} {fn : List He.FnD} {K : PySem.W.Frag} {h : Heap} {mg : Str → Option Value}
theorem SaysS.fkt (c : SaysS fk fn K) : fk K = true :=
  (He.ba (show (fk K && fn.all fun d => (He.Fa.code d.at_ d.qual).ok K) = true from congrArg (fun z : AlS => z.1) c)).1
theorem SaysS.def_ (c : SaysS fk fn K) (i : Nat) {d : He.FnD} (h : fn[i]? = some d := by rfl) :
    ∃ oc od osl kV doc pm an cdv ct, K.lookup (He.fAd K d.at_) = some ⟨oc, od, .func (PySem.W.fnOf d.name d.qual d.params d.body d.scope .none kV doc pm an cdv ct), osl⟩ ∧ PySem.W.codeIn K cdv d.qual = true := by
  have c2 := (He.ba (show (fk K && fn.all fun d => (He.Fa.code d.at_ d.qual).ok K) = true from congrArg (fun z : AlS => z.1) c)).2
  have e : fn.map (fun d => He.fnObs K d.at_) = fn.map He.FnD.val := congrArg (fun z : AlS => z.2) c
  have e2 : (fn.map fun d => He.fnObs K d.at_)[i]? = (fn.map He.FnD.val)[i]? := by rw [e]
  rw [List.getElem?_map, List.getElem?_map, h] at e2
  exact He.fn_ok (Option.some.inj e2) (List.all_eq_true.mp c2 d (List.mem_of_getElem? h))
end
/-! the run's equation in parts: each a run of its own, the facts shared out -/
section
open HandSHeadRun PySem.W
def frS (n : Nat) (s : SharedT) : PySem.W.Frag := He.frG (getT s) (cStatics :: sysModules :: He.asG (getT s) n)
def fnS (n : Nat) (fn : List He.FnD) (s : SharedT) : AlS := (fn.all fun d => (He.Fa.code d.at_ d.qual).ok (frS n s), fn.map fun d => He.fnObs (frS n s) d.at_)
noncomputable def seeS (r : OpenRow) (q : Program) (loose : List Str) (w : World) (s : SharedT) := (looksF r.prog (boot_heap w.params) s.abs, seenQ q loose (importedModules r.prog.main.body) (fun s => xlAt q [] s && recOk r.toRowW.records s) s.abs)
noncomputable abbrev lastS (r : OpenRow) (M : Nat) (w : World) (os : OsState) : Option SharedT := endF (stepQ (denQ tabQ) r.prog w) M r.prog w os
theorem run_parts {r : OpenRow} {q : Program} {n M : Nat} {loose : List Str} {w : World} {fk fA fB fC : PySem.W.Frag → Bool} {fn : List He.FnD} (hf : ∀ K, fk K = (fA K && (fB K && fC K)))
    (h1 : ∀ os, (lastS r M w os).map (seeS r q loose w) = some (true, openGood q loose)) (h2 : ∀ os, (lastS r M w os).map (fun s => fA (frS n s)) = some true)
    (h3 : ∀ os, (lastS r M w os).map (fun s => fB (frS n s)) = some true) (h4 : ∀ os, (lastS r M w os).map (fun s => fC (frS n s)) = some true)
    (h5 : ∀ os, (lastS r M w os).map (fnS n fn) = some (true, fn.map He.FnD.val)) : RunEq r q (hookS n fk fn) (fun s => obsSG n fk fn (getT s)) M loose w := by
  intro os
  have a1 := h1 os
  have a2 := h2 os
  have a3 := h3 os
  have a4 := h4 os
  have a5 := h5 os
  show (lastS r M w os).map _ = _
  cases e : lastS r M w os with
  | none => rw [e] at a1; cases a1
  | some s =>
    rw [e] at a1 a2 a3 a4 a5
    have b1 : seeS r q loose w s = (true, openGood q loose) := Option.some.inj a1
    have b2 : fA (frS n s) = true := Option.some.inj a2
    have b3 : fB (frS n s) = true := Option.some.inj a3
    have b4 : fC (frS n s) = true := Option.some.inj a4
    have b5 : fnS n fn s = (true, fn.map He.FnD.val) := Option.some.inj a5
    have c1 : looksF r.prog (boot_heap w.params) s.abs = true := congrArg (fun z => z.1) b1
    have c2 : seenQ q loose (importedModules r.prog.main.body) (fun s => xlAt q [] s && recOk r.toRowW.records s) s.abs = openGood q loose := congrArg (fun z => z.2) b1
    have c3 : obsSG n fk fn (getT s) = valS fn := by
      have d1 : (fn.all fun d => (He.Fa.code d.at_ d.qual).ok (frS n s)) = true := congrArg (fun z : AlS => z.1) b5
      have d2 : (fn.map fun d => He.fnObs (frS n s) d.at_) = fn.map He.FnD.val := congrArg (fun z : AlS => z.2) b5
      show (fk (frS n s) && fn.all fun d => (He.Fa.code d.at_ d.qual).ok (frS n s), fn.map fun d => He.fnObs (frS n s) d.at_) = (true, fn.map He.FnD.val)
      rw [d1, d2, hf, b2, b3, b4]
      rfl
    show some (looksF r.prog (boot_heap w.params) s.abs, seenQ q loose (importedModules r.prog.main.body) (fun s => xlAt q [] s && recOk r.toRowW.records s) s.abs, obsSG n fk fn (getT s)) = some (true, openGood q loose, valS fn)
    rw [c1, c2, c3]
end
end SW

set_option maxRecDepth 100000
set_option maxHeartbeats 0
namespace Lw
open PySem PySem.Spec PyProof.Rows L2 SW
def topS (i : Nat) : Stmt := PySem.Challenge.pw_swaprest_k57_letters_joined_and_cut.main.body.getD i (.Pass ⟨0, 0, 0, 0⟩)
abbrev s__law_mixed : Stmt := topS 27
abbrev s__law_purse : Stmt := topS 28
abbrev s__law_rank : Stmt := topS 37
abbrev s__law_told : Stmt := topS 38
abbrev s__law_at : Stmt := topS 30
abbrev s__law_take : Stmt := topS 29
abbrev s__law_word : Stmt := topS 35
abbrev s__law_low : Stmt := topS 31
abbrev s__law_number : Stmt := topS 34
abbrev s__law_sum : Stmt := topS 36
abbrev s_is_whole : Stmt := topS 6
abbrev s_check_count : Stmt := topS 22
abbrev s_is_word : Stmt := topS 14
abbrev s_divisor : Stmt := topS 7
abbrev s_is_number : Stmt := topS 9
abbrev s_is_term : Stmt := topS 15
abbrev s_rank : Stmt := topS 16
abbrev s_check_sum : Stmt := topS 17
abbrev s_told_sum : Stmt := topS 18
abbrev s_lowest : Stmt := topS 8
abbrev s_plus : Stmt := topS 10
abbrev s_put_to : Stmt := topS 19
abbrev s_times : Stmt := topS 11
abbrev s_joined_short : Stmt := topS 24
abbrev s_cut_joined : Stmt := topS 25
abbrev s__law_plus : Stmt := topS 32
abbrev s__law_put : Stmt := topS 39
abbrev s__law_by : Stmt := topS 33
abbrev s__law_joined : Stmt := topS 40
abbrev s_law : Stmt := topS 41
def D__law_mixed : He.FnD := ⟨("_law_mixed", none), "_law_mixed", "_law_mixed", defArgs s__law_mixed, defBody s__law_mixed, defScope s__law_mixed⟩
def D__law_purse : He.FnD := ⟨("_law_purse", none), "_law_purse", "_law_purse", defArgs s__law_purse, defBody s__law_purse, defScope s__law_purse⟩
def D__law_rank : He.FnD := ⟨("_law_rank", none), "_law_rank", "_law_rank", defArgs s__law_rank, defBody s__law_rank, defScope s__law_rank⟩
def D__law_told : He.FnD := ⟨("_law_told", none), "_law_told", "_law_told", defArgs s__law_told, defBody s__law_told, defScope s__law_told⟩
def D__law_at : He.FnD := ⟨("_law_at", none), "_law_at", "_law_at", defArgs s__law_at, defBody s__law_at, defScope s__law_at⟩
def D__law_take : He.FnD := ⟨("_law_take", none), "_law_take", "_law_take", defArgs s__law_take, defBody s__law_take, defScope s__law_take⟩
def D__law_word : He.FnD := ⟨("_law_word", none), "_law_word", "_law_word", defArgs s__law_word, defBody s__law_word, defScope s__law_word⟩
def D__law_low : He.FnD := ⟨("_law_low", none), "_law_low", "_law_low", defArgs s__law_low, defBody s__law_low, defScope s__law_low⟩
def D__law_number : He.FnD := ⟨("_law_number", none), "_law_number", "_law_number", defArgs s__law_number, defBody s__law_number, defScope s__law_number⟩
def D__law_sum : He.FnD := ⟨("_law_sum", none), "_law_sum", "_law_sum", defArgs s__law_sum, defBody s__law_sum, defScope s__law_sum⟩
def D_is_whole : He.FnD := ⟨("is_whole", none), "is_whole", "is_whole", defArgs s_is_whole, defBody s_is_whole, defScope s_is_whole⟩
def D_check_count : He.FnD := ⟨("check_count", none), "check_count", "check_count", defArgs s_check_count, defBody s_check_count, defScope s_check_count⟩
def D_is_word : He.FnD := ⟨("is_word", none), "is_word", "is_word", defArgs s_is_word, defBody s_is_word, defScope s_is_word⟩
def D_divisor : He.FnD := ⟨("divisor", none), "divisor", "divisor", defArgs s_divisor, defBody s_divisor, defScope s_divisor⟩
def D_is_number : He.FnD := ⟨("is_number", none), "is_number", "is_number", defArgs s_is_number, defBody s_is_number, defScope s_is_number⟩
def D_is_term : He.FnD := ⟨("is_term", none), "is_term", "is_term", defArgs s_is_term, defBody s_is_term, defScope s_is_term⟩
def D_rank : He.FnD := ⟨("rank", none), "rank", "rank", defArgs s_rank, defBody s_rank, defScope s_rank⟩
def D_check_sum : He.FnD := ⟨("check_sum", none), "check_sum", "check_sum", defArgs s_check_sum, defBody s_check_sum, defScope s_check_sum⟩
def D_told_sum : He.FnD := ⟨("told_sum", none), "told_sum", "told_sum", defArgs s_told_sum, defBody s_told_sum, defScope s_told_sum⟩
def D_lowest : He.FnD := ⟨("lowest", none), "lowest", "lowest", defArgs s_lowest, defBody s_lowest, defScope s_lowest⟩
def D_plus : He.FnD := ⟨("plus", none), "plus", "plus", defArgs s_plus, defBody s_plus, defScope s_plus⟩
def D_put_to : He.FnD := ⟨("put_to", none), "put_to", "put_to", defArgs s_put_to, defBody s_put_to, defScope s_put_to⟩
def D_times : He.FnD := ⟨("times", none), "times", "times", defArgs s_times, defBody s_times, defScope s_times⟩
def D_joined_short : He.FnD := ⟨("joined_short", none), "joined_short", "joined_short", defArgs s_joined_short, defBody s_joined_short, defScope s_joined_short⟩
def D_cut_joined : He.FnD := ⟨("cut_joined", none), "cut_joined", "cut_joined", defArgs s_cut_joined, defBody s_cut_joined, defScope s_cut_joined⟩
def D__law_plus : He.FnD := ⟨("_law_plus", none), "_law_plus", "_law_plus", defArgs s__law_plus, defBody s__law_plus, defScope s__law_plus⟩
def D__law_put : He.FnD := ⟨("_law_put", none), "_law_put", "_law_put", defArgs s__law_put, defBody s__law_put, defScope s__law_put⟩
def D__law_by : He.FnD := ⟨("_law_by", none), "_law_by", "_law_by", defArgs s__law_by, defBody s__law_by, defScope s__law_by⟩
def D__law_joined : He.FnD := ⟨("_law_joined", none), "_law_joined", "_law_joined", defArgs s__law_joined, defBody s__law_joined, defScope s__law_joined⟩
def D_law : He.FnD := ⟨("law", none), "law", "law", defArgs s_law, defBody s_law, defScope s_law⟩
def fns : List He.FnD := [D__law_mixed, D__law_purse, D__law_rank, D__law_told, D__law_at, D__law_take, D__law_word, D__law_low, D__law_number, D__law_sum, D_is_whole, D_check_count, D_is_word, D_divisor, D_is_number, D_is_term, D_rank, D_check_sum, D_told_sum, D_lowest, D_plus, D_put_to, D_times, D_joined_short, D_cut_joined, D__law_plus, D__law_put, D__law_by, D__law_joined, D_law]
abbrev P0 (K : PySem.W.Frag) : Prop := (seerB K = true) ∧
    (PySem.W.nsIn K mainGlobals "_law_mixed" = some (some (.ref (He.ga K "_law_mixed")))) ∧
    (PySem.W.keepIn K (.ref (He.ga K "_law_mixed")) = true) ∧
    (PySem.W.nsIn K mainGlobals "_law_purse" = some (some (.ref (He.ga K "_law_purse")))) ∧
    (PySem.W.keepIn K (.ref (He.ga K "_law_purse")) = true) ∧
    (PySem.W.nsIn K mainGlobals "_law_rank" = some (some (.ref (He.ga K "_law_rank")))) ∧
    (PySem.W.keepIn K (.ref (He.ga K "_law_rank")) = true) ∧
    (PySem.W.nsIn K mainGlobals "_law_told" = some (some (.ref (He.ga K "_law_told")))) ∧
    (PySem.W.keepIn K (.ref (He.ga K "_law_told")) = true) ∧
    (PySem.W.nsIn K mainGlobals "_law_at" = some (some (.ref (He.ga K "_law_at")))) ∧
    (PySem.W.keepIn K (.ref (He.ga K "_law_at")) = true) ∧
    (PySem.W.nsIn K mainGlobals "_law_take" = some (some (.ref (He.ga K "_law_take")))) ∧
    (PySem.W.keepIn K (.ref (He.ga K "_law_take")) = true) ∧
    (PySem.W.nsIn K mainGlobals "_law_word" = some (some (.ref (He.ga K "_law_word")))) ∧
    (PySem.W.keepIn K (.ref (He.ga K "_law_word")) = true) ∧
    (PySem.W.nsIn K mainGlobals "_law_low" = some (some (.ref (He.ga K "_law_low")))) ∧
    (PySem.W.keepIn K (.ref (He.ga K "_law_low")) = true) ∧
    (PySem.W.nsIn K mainGlobals "_law_number" = some (some (.ref (He.ga K "_law_number")))) ∧
    (PySem.W.keepIn K (.ref (He.ga K "_law_number")) = true) ∧
    (PySem.W.nsIn K mainGlobals "_law_sum" = some (some (.ref (He.ga K "_law_sum")))) ∧
    (PySem.W.keepIn K (.ref (He.ga K "_law_sum")) = true) ∧
    (PySem.W.nsIn K mainGlobals "is_whole" = some (some (.ref (He.ga K "is_whole")))) ∧
    (PySem.W.keepIn K (.ref (He.ga K "is_whole")) = true) ∧
    (PySem.W.nsIn K mainGlobals "check_count" = some (some (.ref (He.ga K "check_count")))) ∧
    (PySem.W.keepIn K (.ref (He.ga K "check_count")) = true) ∧ True
def fk0 (K : PySem.W.Frag) : Bool := decide (P0 K)
abbrev P1 (K : PySem.W.Frag) : Prop := (PySem.W.nsIn K mainGlobals "is_word" = some (some (.ref (He.ga K "is_word")))) ∧
    (PySem.W.keepIn K (.ref (He.ga K "is_word")) = true) ∧
    (PySem.W.nsIn K mainGlobals "divisor" = some (some (.ref (He.ga K "divisor")))) ∧
    (PySem.W.keepIn K (.ref (He.ga K "divisor")) = true) ∧
    (PySem.W.nsIn K mainGlobals "is_number" = some (some (.ref (He.ga K "is_number")))) ∧
    (PySem.W.keepIn K (.ref (He.ga K "is_number")) = true) ∧
    (PySem.W.nsIn K mainGlobals "is_term" = some (some (.ref (He.ga K "is_term")))) ∧
    (PySem.W.keepIn K (.ref (He.ga K "is_term")) = true) ∧
    (PySem.W.nsIn K mainGlobals "rank" = some (some (.ref (He.ga K "rank")))) ∧
    (PySem.W.keepIn K (.ref (He.ga K "rank")) = true) ∧
    (PySem.W.nsIn K mainGlobals "check_sum" = some (some (.ref (He.ga K "check_sum")))) ∧
    (PySem.W.keepIn K (.ref (He.ga K "check_sum")) = true) ∧
    (PySem.W.nsIn K mainGlobals "told_sum" = some (some (.ref (He.ga K "told_sum")))) ∧
    (PySem.W.keepIn K (.ref (He.ga K "told_sum")) = true) ∧
    (PySem.W.nsIn K mainGlobals "lowest" = some (some (.ref (He.ga K "lowest")))) ∧
    (PySem.W.keepIn K (.ref (He.ga K "lowest")) = true) ∧
    (PySem.W.nsIn K mainGlobals "plus" = some (some (.ref (He.ga K "plus")))) ∧
    (PySem.W.keepIn K (.ref (He.ga K "plus")) = true) ∧
    (PySem.W.nsIn K mainGlobals "put_to" = some (some (.ref (He.ga K "put_to")))) ∧
    (PySem.W.keepIn K (.ref (He.ga K "put_to")) = true) ∧
    (PySem.W.nsIn K mainGlobals "times" = some (some (.ref (He.ga K "times")))) ∧
    (PySem.W.keepIn K (.ref (He.ga K "times")) = true) ∧
    (PySem.W.nsIn K mainGlobals "joined_short" = some (some (.ref (He.ga K "joined_short")))) ∧
    (PySem.W.keepIn K (.ref (He.ga K "joined_short")) = true) ∧
    (PySem.W.nsIn K mainGlobals "cut_joined" = some (some (.ref (He.ga K "cut_joined")))) ∧ True
def fk1 (K : PySem.W.Frag) : Bool := decide (P1 K)
abbrev P2 (K : PySem.W.Frag) : Prop := (PySem.W.keepIn K (.ref (He.ga K "cut_joined")) = true) ∧
    (PySem.W.nsIn K mainGlobals "_law_plus" = some (some (.ref (He.ga K "_law_plus")))) ∧
    (PySem.W.keepIn K (.ref (He.ga K "_law_plus")) = true) ∧
    (PySem.W.nsIn K mainGlobals "_law_put" = some (some (.ref (He.ga K "_law_put")))) ∧
    (PySem.W.keepIn K (.ref (He.ga K "_law_put")) = true) ∧
    (PySem.W.nsIn K mainGlobals "_law_by" = some (some (.ref (He.ga K "_law_by")))) ∧
    (PySem.W.keepIn K (.ref (He.ga K "_law_by")) = true) ∧
    (PySem.W.nsIn K mainGlobals "_law_joined" = some (some (.ref (He.ga K "_law_joined")))) ∧
    (PySem.W.keepIn K (.ref (He.ga K "_law_joined")) = true) ∧
    (PySem.W.nsIn K mainGlobals "law" = some (some (.ref (He.ga K "law")))) ∧
    (PySem.W.keepIn K (.ref (He.ga K "law")) = true) ∧
    (PySem.W.nsIn K mainGlobals "abs" = some none) ∧
    (PySem.W.nsIn K mainGlobals "bool" = some none) ∧
    (PySem.W.nsIn K mainGlobals "enumerate" = some none) ∧
    (PySem.W.nsIn K mainGlobals "int" = some none) ∧
    (PySem.W.nsIn K mainGlobals "isinstance" = some none) ∧
    (PySem.W.nsIn K mainGlobals "len" = some none) ∧
    (PySem.W.nsIn K mainGlobals "list" = some none) ∧
    (PySem.W.nsIn K mainGlobals "max" = some none) ∧
    (PySem.W.nsIn K mainGlobals "min" = some none) ∧
    (PySem.W.nsIn K mainGlobals "range" = some none) ∧
    (PySem.W.nsIn K mainGlobals "sorted" = some none) ∧
    (PySem.W.nsIn K mainGlobals "str" = some none) ∧
    (PySem.W.nsIn K mainGlobals "tuple" = some none) ∧
    ((He.Fa.int "MOST" 5).ok K = true) ∧ True
def fk2 (K : PySem.W.Frag) : Bool := decide (P2 K)
abbrev P3 (K : PySem.W.Frag) : Prop := ((He.Fa.int "MOST_LETTERS" 4).ok K = true) ∧
    (PySem.W.nsIn K mainGlobals "NOUGHT" = some (some (.ref (He.ga K "NOUGHT")))) ∧
    (He.tupB K "NOUGHT" [.int 0, .int 1] = true) ∧ True
def fk3 (K : PySem.W.Frag) : Bool := decide (P3 K)
def fk (K : PySem.W.Frag) : Bool := fk0 K && (fk1 K && (fk2 K && (fk3 K)))
abbrev hk : PySem.W.Hook := hookS 5 fk fns
def ob (s : PySem.W.SharedT) : AlS := obsSG 5 fk fns (HandSHeadRun.getT s)
theorem ob_eq (s : PySem.W.SharedT) : ob s = hk.obs s.abs := obsSG_eq (HandSHeadRun.getT_eq s)
def nm0 : List Str := ["SwapError", "NoCount", "NoSum", "NOUGHT", "is_whole", "divisor", "lowest", "is_number", "plus", "times", "MOST", "is_word", "is_term", "rank", "check_sum", "told_sum", "put_to", "MOST_LETTERS", "check_count", "joined_short", "cut_joined", "_law_mixed", "_law_purse", "_law_take", "_law_at", "_law_low", "_law_plus", "_law_by", "_law_number", "_law_word"]
def nm1 : List Str := ["_law_sum", "_law_rank", "_law_told", "_law_put", "_law_joined"]
def nms : List Str := nm0 ++ (nm1)
theorem run (w : World) : HandSHeadRun.RunEq (PySem.W.OpenLaw.row PySem.Challenge.rw_swaprest_k57_letters_joined_and_cut) (PySem.W.view (PySem.W.OpenLaw.row PySem.Challenge.rw_swaprest_k57_letters_joined_and_cut).prog [41]) hk ob 20000 nms w := by
  intro os
  kernel_rfl
end Lw

set_option maxRecDepth 100000
/-! SW1: data without a heap (D), how a heap bears them (At), owned cells (OwnAt), a frame's slots (Rel), steps (Stp). -/
namespace SW
open PySem PySem.Spec PyProof.Rows L2

/-- the built-in classes that are named -/
inductive Tc where
  | int | bool | tuple | list | str | dict
def Tc.nm : Tc → String
  | .int => "int"
  | .bool => "bool"
  | .tuple => "tuple"
  | .list => "list"
  | .str => "str"
  | .dict => "dict"
/-- a datum -/
inductive D where
  | non | bl (b : Bool) | int (i : Int) | str (x : Str)
  | tup (xs : List D) | lst (xs : List D)
  | dct (kvs : List (NestedKey × D))
  /-- an instance of a class of the program, its attributes; an exception of a class, with its one field or none -/
  | ins (c : Str) (fs : List (Str × D))
  | exc (c : Str) (fs : List (Str × D))
  | scr (ns : List Int)
  | ty (n : Tc)

/-- an exception of the class cls, caught once, at a -/
def ExT (cls : Value) (d : Option Addr) (a : Addr) : HO := .ext fun h => ∃ (oe : Obj) (vs : Array Value), h.get? a = some oe ∧ Zc cls d oe ∧ oe.data = .fields vs
/-- a dict's object and what its entries are: the key, its tuple, the value -/
structure DX where
  o : Obj
  xs : List (NestedKey × Addr × V)
def DT (a : Addr) (x : DX) : HO := .ext fun h => h.get? a = some x.o
mutual
/-- a key as a datum -/
def keyB : NestedKey → D
  | .none => .non
  | .num i => .int i
  | .text x => .str x
  | .tup ks => .tup (keyBs ks)
def keyBs : List NestedKey → List D
  | [] => []
  | k :: ks => keyB k :: keyBs ks
end
mutual
/-- a datum as a key (no texts) -/
def keyD : D → Option NestedKey
  | .non => some .none
  | .int i => some (.num i)
  | .tup ds => match keyDs ds with
    | some ks => some (.tup ks)
    | none => none
  | .bl _ => none
  | .str _ => none
  | .lst _ => none
  | .dct _ => none
  | .ins _ _ => none
  | .exc _ _ => none
  | .scr _ => none
  | .ty _ => none
def keyDs : List D → Option (List NestedKey)
  | [] => some []
  | d :: ds => match keyD d, keyDs ds with
    | some k, some ks => some (k :: ks)
    | _, _ => none
end
/-- a tuple that is a key -/
def keyT (d : D) : Option NestedKey := match d with
  | .tup ds => match keyD (.tup ds) with
    | some k => if k.depth ≤ 8 then some k else none
    | none => none
  | _ => none
def DX.vs (x : DX) : List V := (x.xs.map fun p => V.ref p.2.1) ++ x.xs.map fun p => p.2.2
def dvs (ds : List (NestedKey × D)) : List D := (ds.map fun p => keyB p.1) ++ ds.map fun p => p.2
abbrev EnL : List DictEntry → List (NestedKey × Addr × V) → Prop := Paired fun en x => (∀ w, en.hash = NestedKey.hash w x.1) ∧ en.key = .ref x.2.1 ∧ RelV x.2.2 en.val
/-- the object x.o, at a, is a dict of the entries x.xs, whose keys are those of ds -/
structure DTok (a : Addr) (x : DX) (ds : List (NestedKey × D)) : Prop where
  sys : (a == sysModules) = false
  ex : x.o.ExactDict
  keys : x.xs.map (·.1) = ds.map (·.1)
  nodup : (x.xs.map (·.1)).Nodup
  kk : ∀ p ∈ x.xs, keyT (keyB p.1) = some p.1
  ens : ∃ es ep, x.o.data = .dict es ep ∧ EnL es.toList x.xs

mutual
inductive At (K : PySem.W.Frag) (S : Hp) : V → D → Prop
  | non : At K S .non .non
  | bl (b : Bool) : At K S (.bl b) (.bl b)
  | int (i : Int) : At K S (.int i) (.int i)
  | str (x : Str) : At K S (.str x) (.str x)
  | tup {a : Addr} {vs : List V} {ds : List D} : SqT K S a vs → ds.length ≤ sizeLine → AtL K S vs ds → At K S (.ref a) (.tup ds)
  | lst {a : Addr} {vs : List V} {ds : List D} : S a = some (.lst vs) → ds.length ≤ sizeLine → AtL K S vs ds → At K S (.ref a) (.lst ds)
  | dct {a : Addr} {x : DX} {ds : List (NestedKey × D)} : S a = some (DT a x) → DTok a x ds → ds.length ≤ sizeLine → AtL K S x.vs (dvs ds) → At K S (.ref a) (.dct ds)
  | ins {a C dx : Addr} {c : Str} {fv : List (Str × V)} {fs : List (Str × D)} : S a = some (.ins C dx fv) → PySem.W.nsIn K mainGlobals c = some (some (.ref C)) → S dx = some (.own a) → fv.map (·.1) = fs.map (·.1) → AtL K S (fv.map (·.2)) (fs.map (·.2)) → At K S (.ref a) (.ins c fs)
  | exc0 {a C : Addr} {c : Str} : S a = some (ExT (.ref C) none a) → PySem.W.nsIn K mainGlobals c = some (some (.ref C)) → At K S (.ref a) (.exc c [])
  | exc1 {a C d : Addr} {c f : Str} {v : V} {x : D} : S a = some (ExT (.ref C) (some d) a) → PySem.W.nsIn K mainGlobals c = some (some (.ref C)) → S d = some (.xd [(f, v)]) → At K S v x → At K S (.ref a) (.exc c [(f, x)])
  | scr {a : Addr} {ns : List Int} : SqL K S a (ns.map V.int) → ns.length ≤ sizeLine → At K S (.ref a) (.scr ns)
  | ty {x : String} (n : Tc) : x = n.nm → At K S (.ty x) (.ty n)
inductive AtL (K : PySem.W.Frag) (S : Hp) : List V → List D → Prop
  | nil : AtL K S [] []
  | cons {v : V} {vs : List V} {d : D} {ds : List D} : At K S v d → AtL K S vs ds → AtL K S (v :: vs) (d :: ds)
end

theorem sqT_mono {K : PySem.W.Frag} {H H' : Hp} {a : Addr} {xs : List V} (e : Same H H') (h : SqT K H a xs) : SqT K H' a xs := by
  rcases h with (h | ⟨o, h⟩) | h
  · exact .inl (.inl (e _ _ h))
  · exact .inl (.inr ⟨o, e _ _ h⟩)
  · exact .inr h

mutual
theorem At.mono {K : PySem.W.Frag} {S S' : Hp} (e : Same S S') : ∀ {v : V} {d : D}, At K S v d → At K S' v d
  | _, _, .non => .non
  | _, _, .bl b => .bl b
  | _, _, .int i => .int i
  | _, _, .str x => .str x
  | _, _, .tup h z r => .tup (sqT_mono e h) z (AtL.mono e r)
  | _, _, .lst h z r => .lst (e _ _ h) z (AtL.mono e r)
  | _, _, .dct h k z r => .dct (e _ _ h) k z (AtL.mono e r)
  | _, _, .ins h c k q r => .ins (e _ _ h) c (e _ _ k) q (AtL.mono e r)
  | _, _, .exc0 h c => .exc0 (e _ _ h) c
  | _, _, .exc1 h c d r => .exc1 (e _ _ h) c (e _ _ d) (At.mono e r)
  | _, _, .scr h z => .scr (e.seq h) z
  | _, _, .ty n h => .ty n h
theorem AtL.mono {K : PySem.W.Frag} {S S' : Hp} (e : Same S S') : ∀ {vs : List V} {ds : List D}, AtL K S vs ds → AtL K S' vs ds
  | _, _, .nil => .nil
  | _, _, .cons h r => .cons (At.mono e h) (AtL.mono e r)
end
section
variable {K : PySem.W.Frag} {S S' H H' : Hp}
theorem AtL.length : ∀ {vs : List V} {ds : List D}, AtL K S vs ds → vs.length = ds.length
  | _, _, .nil => rfl
  | _, _, .cons _ r => by rw [List.length_cons, List.length_cons, AtL.length r]
theorem AtL.get : ∀ {vs : List V} {ds : List D} {i : Nat} {d : D}, AtL K S vs ds → ds[i]? = some d → ∃ v, vs[i]? = some v ∧ At K S v d
  | _, _, _, _, .nil, e => by simp at e
  | _, _, 0, _, .cons h _, e => by simp at e; subst e; exact ⟨_, rfl, h⟩
  | _, _, i + 1, _, .cons _ r, e => by
    obtain ⟨v, h1, h2⟩ := AtL.get (i := i) r (by simpa using e)
    exact ⟨v, by simpa using h1, h2⟩
theorem AtL.getV : ∀ {vs : List V} {ds : List D} {i : Nat} {v : V}, AtL K S vs ds → vs[i]? = some v → ∃ d, ds[i]? = some d ∧ At K S v d
  | _, _, _, _, .nil, e => by simp at e
  | _, _, 0, _, .cons h _, e => by simp at e; subst e; exact ⟨_, rfl, h⟩
  | _, _, i + 1, _, .cons _ r, e => by
    obtain ⟨v, h1, h2⟩ := AtL.getV (i := i) r (by simpa using e)
    exact ⟨v, by simpa using h1, h2⟩
theorem AtL.append : ∀ {vs ws : List V} {ds es : List D}, AtL K S vs ds → AtL K S ws es → AtL K S (vs ++ ws) (ds ++ es)
  | _, _, _, _, .nil, r => r
  | _, _, _, _, .cons h t, r => .cons h (AtL.append t r)
theorem AtL.take : ∀ {vs : List V} {ds : List D} (n : Nat), AtL K S vs ds → AtL K S (vs.take n) (ds.take n)
  | _, _, 0, _ => .nil
  | _, _, _ + 1, .nil => .nil
  | _, _, n + 1, .cons h t => .cons h (AtL.take n t)
theorem AtL.drop : ∀ {vs : List V} {ds : List D} (n : Nat), AtL K S vs ds → AtL K S (vs.drop n) (ds.drop n)
  | _, _, 0, r => r
  | _, _, _ + 1, .nil => .nil
  | _, _, n + 1, .cons _ t => AtL.drop n t
theorem AtL.set : ∀ {vs : List V} {ds : List D} {v : V} {d : D} (i : Nat), AtL K S vs ds → At K S v d → AtL K S (vs.set i v) (ds.set i d)
  | _, _, _, _, _, .nil, _ => .nil
  | _, _, _, _, 0, .cons _ t, h => .cons h t
  | _, _, _, _, i + 1, .cons q t, h => .cons q (AtL.set i t h)
theorem AtL.reverse : ∀ {vs : List V} {ds : List D}, AtL K S vs ds → AtL K S vs.reverse ds.reverse
  | _, _, .nil => .nil
  | _, _, .cons h t => by rw [List.reverse_cons, List.reverse_cons]; exact (AtL.reverse t).append (.cons h .nil)
theorem AtL.ints : ∀ ns : List Int, AtL K S (ns.map V.int) (ns.map D.int)
  | [] => .nil
  | n :: ns => .cons (.int n) (AtL.ints ns)

/-! ### owned cells -/
/-- what a cell that one name alone holds is: a list, a dict, an instance; what is in it stands -/
inductive Body (K : PySem.W.Frag) (S : Hp) (a : Addr) : HO → D → Prop
  | lst {vs : List V} {ds : List D} (z : ds.length ≤ sizeLine) (r : AtL K S vs ds) : Body K S a (.lst vs) (.lst ds)
  | dct {x : DX} {ds : List (NestedKey × D)} (k : DTok a x ds) (z : ds.length ≤ sizeLine) (r : AtL K S x.vs (dvs ds)) : Body K S a (DT a x) (.dct ds)
  | ins {C dx : Addr} {c : Str} {fv : List (Str × V)} {fs : List (Str × D)} (hc : PySem.W.nsIn K mainGlobals c = some (some (.ref C))) (hd : S dx = some (.own a)) (q : fv.map (·.1) = fs.map (·.1)) (r : AtL K S (fv.map (·.2)) (fs.map (·.2))) : Body K S a (.ins C dx fv) (.ins c fs)
theorem Body.mono {a : Addr} {o : HO} {d : D} (e : Same S S') : Body K S a o d → Body K S' a o d
  | .lst z r => .lst z (r.mono e)
  | .dct k z r => .dct k z (r.mono e)
  | .ins c k q r => .ins c (e _ _ k) q (r.mono e)
theorem Body.at {a : Addr} {o : HO} {d : D} (h : S a = some o) : Body K S a o d → At K S (.ref a) d
  | .lst z r => .lst h z r
  | .dct k z r => .dct h k z r
  | .ins c k q r => .ins h c k q r
def OwnAt (K : PySem.W.Frag) (S H : Hp) (v : V) (d : D) : Prop :=
  ∃ a, v = .ref a ∧ S a = none ∧ ∃ o, H a = some o ∧ Body K S a o d
theorem OwnAt.mkL {a : Addr} {vs : List V} {ds : List D} (n : S a = none) (h : H a = some (.lst vs)) (z : ds.length ≤ sizeLine) (r : AtL K S vs ds) : OwnAt K S H (.ref a) (.lst ds) := ⟨a, rfl, n, _, h, .lst z r⟩

def SlotAt (K : PySem.W.Frag) (S H : Hp) : Bool → Option V → Option D → Prop
  | _, none, none => True
  | false, some v, some d => At K S v d
  | true, some v, some d => OwnAt K S H v d
  | _, _, _ => False

abbrev Rho := List (Option D)
abbrev Os := List Bool
abbrev Sg := L2.St

/-- the addresses that the owning slots hold -/
def Own (os : Os) (σ : Sg) (a : Addr) : Prop := ∃ i, os.getD i false = true ∧ σ[i]? = some (some (.ref a))

structure Rel (K : PySem.W.Frag) (S H : Hp) (os : Os) (σ : Sg) (ρ : Rho) : Prop where
  sub : Same S H
  len : σ.length = ρ.length
  slot : ∀ i x d, σ[i]? = some x → ρ[i]? = some d → SlotAt K S H (os.getD i false) x d
  sep : ∀ i j a, os.getD i false = true → os.getD j false = true → σ[i]? = some (some (.ref a)) → σ[j]? = some (some (.ref a)) → i = j

/-- O: what may be turned; all else that doesn't stand is left alone -/
structure Ext (O : Addr → Prop) (S H S' H' : Hp) : Prop where
  s : Same S S'
  sh : Same S' H'
  fr : ∀ a o, H a = some o → S a = none → ¬ O a → H' a = some o ∧ S' a = none
  there : ∀ a, H' a = none → H a = none

structure Stp (os : Os) (σ : Sg) (S H : Hp) (os' : Os) (σ' : Sg) (S' H' : Hp) : Prop where
  ext : Ext (Own os σ) S H S' H'
  own : ∀ a, Own os' σ' a → Own os σ a ∨ H a = none

theorem Ext.refl {O : Addr → Prop} (h : Same S H) : Ext O S H S H := ⟨Same.refl _, h, fun _ _ e n _ => ⟨e, n⟩, fun _ e => e⟩
theorem Ext.trans {O O1 : Addr → Prop} {S1 H1 S2 H2 : Hp} (a : Ext O S H S1 H1) (b : Ext O1 S1 H1 S2 H2) (ho : ∀ c, O1 c → O c ∨ H c = none) : Ext O S H S2 H2 where
  s := a.s.trans b.s
  sh := b.sh
  fr := fun c o e n no => by
    obtain ⟨e1, n1⟩ := a.fr c o e n no
    refine b.fr c o e1 n1 fun q => ?_
    rcases ho c q with q | q
    · exact no q
    · rw [e] at q; cases q
  there := fun c e => a.there c (b.there c e)
theorem Ext.weak {O O' : Addr → Prop} {S1 H1 : Hp} (a : Ext O S H S1 H1) (h : ∀ c, O c → O' c) : Ext O' S H S1 H1 :=
  ⟨a.s, a.sh, fun c o e n no => a.fr c o e n fun q => no (h c q), a.there⟩
theorem Stp.refl {os : Os} {σ : Sg} (h : Same S H) : Stp os σ S H os σ S H := ⟨Ext.refl h, fun _ q => .inl q⟩
theorem Stp.trans {os os1 os2 : Os} {σ σ1 σ2 : Sg} {S1 H1 S2 H2 : Hp} (a : Stp os σ S H os1 σ1 S1 H1) (b : Stp os1 σ1 S1 H1 os2 σ2 S2 H2) : Stp os σ S H os2 σ2 S2 H2 where
  ext := a.ext.trans b.ext a.own
  own := fun c q => by
    rcases b.own c q with q | q
    · exact a.own c q
    · exact .inr (a.ext.there c q)

/-- a new cell is laid and stands -/
theorem Ext.new {O : Addr → Prop} {p : Addr} {o : HO} (h : Same S H) (n : H p = none) : Ext O S H (upd S p o) (upd H p o) where
  s := fun b x e => by rw [upd_ne (ne_of_none (h b x e) n)]; exact e
  sh := fun b x e => by
    by_cases hb : b = p
    · subst hb; rw [upd_same] at e ⊢; exact e
    · rw [upd_ne hb] at e ⊢; exact h b x e
  fr := fun b x e nb _ => by
    have hb : b ≠ p := ne_of_none e n
    rw [upd_ne hb, upd_ne hb]; exact ⟨e, nb⟩
  there := fun b e => by
    by_cases hb : b = p
    · subst hb; rw [upd_same] at e; cases e
    · rw [upd_ne hb] at e; exact e
/-- a new cell is laid; it is owned -/
theorem Ext.newO {O : Addr → Prop} {p : Addr} {o : HO} (h : Same S H) (n : H p = none) : Ext O S H S (upd H p o) where
  s := Same.refl _
  sh := fun b x e => by rw [upd_ne (ne_of_none (h b x e) n)]; exact h b x e
  fr := fun b x e nb _ => by rw [upd_ne (ne_of_none e n)]; exact ⟨e, nb⟩
  there := fun b e => by
    by_cases hb : b = p
    · subst hb; rw [upd_same] at e; cases e
    · rw [upd_ne hb] at e; exact e
/-- an owned cell is turned -/
theorem Ext.turn {O : Addr → Prop} {p : Addr} {o : HO} (h : Same S H) (n : S p = none) (ho : O p) : Ext O S H S (upd H p o) where
  s := Same.refl _
  sh := fun b x e => by
    have hb : b ≠ p := fun z => by rw [z, n] at e; cases e
    rw [upd_ne hb]; exact h b x e
  fr := fun b x e nb no => by
    have hb : b ≠ p := fun z => no (by rw [z]; exact ho)
    rw [upd_ne hb]; exact ⟨e, nb⟩
  there := fun b e => by
    by_cases hb : b = p
    · subst hb; rw [upd_same] at e; cases e
    · rw [upd_ne hb] at e; exact e

theorem OwnAt.ext {O : Addr → Prop} {v : V} {d : D} (q : OwnAt K S H v d) (x : Ext O S H S' H') (h : ∀ a, v = .ref a → ¬ O a) : OwnAt K S' H' v d := by
  obtain ⟨a, e, n, q⟩ := q
  have no := h a e
  obtain ⟨o, eh, b⟩ := q
  obtain ⟨e1, n1⟩ := x.fr a _ eh n no
  exact ⟨a, e, n1, o, e1, b.mono x.s⟩
theorem OwnAt.some_ {v : V} {d : D} (q : OwnAt K S H v d) : ∃ a o, v = .ref a ∧ S a = none ∧ H a = some o := by
  obtain ⟨a, e, n, q⟩ := q
  obtain ⟨o, eh, b⟩ := q
  exact ⟨a, o, e, n, eh⟩

section
variable {os os' : Os} {σ σ' : Sg} {ρ ρ' : Rho} {i : Nat}
theorem getD_of {α : Type} {l : List α} {i : Nat} {x d : α} (h : l[i]? = some x) : l.getD i d = x := by simp [List.getD, h]
/-- nothing that the slots own is touched -/
theorem Rel.grow {O : Addr → Prop} (r : Rel K S H os σ ρ) (x : Ext O S H S' H') (h : ∀ a, Own os σ a → ¬ O a) : Rel K S' H' os σ ρ where
  sub := x.sh
  len := r.len
  slot := fun i v d e1 e2 => by
    have q := r.slot i v d e1 e2
    cases ho : os.getD i false <;> rw [ho] at q <;> cases v <;> cases d <;> simp only [SlotAt] at q ⊢
    · exact q.mono x.s
    · refine q.ext x fun a ea => h a ⟨i, ho, ?_⟩
      rw [e1, ea]
  sep := r.sep
theorem Rel.new {p : Addr} {o : HO} (r : Rel K S H os σ ρ) (n : H p = none) : Rel K (upd S p o) (upd H p o) os σ ρ := r.grow (Ext.new (O := fun _ => False) r.sub n) fun _ _ z => z
theorem Rel.newO {p : Addr} {o : HO} (r : Rel K S H os σ ρ) (n : H p = none) : Rel K S (upd H p o) os σ ρ := r.grow (Ext.newO (O := fun _ => False) r.sub n) fun _ _ z => z
/-- a slot is read -/
theorem Rel.val (r : Rel K S H os σ ρ) {d : D} (h : ρ[i]? = some (some d)) (ho : os.getD i false = false) : ∃ v, σ[i]? = some (some v) ∧ At K S v d := by
  have hl : i < σ.length := by rw [r.len]; exact (List.getElem?_eq_some_iff.mp h).1
  have q := r.slot i _ _ (List.getElem?_eq_getElem hl) h
  rw [ho] at q
  cases e : σ[i] with
  | none => rw [e] at q; exact q.elim
  | some v => rw [e] at q; exact ⟨v, by rw [List.getElem?_eq_getElem hl, e], q⟩
theorem Rel.own (r : Rel K S H os σ ρ) {d : D} (h : ρ[i]? = some (some d)) (ho : os.getD i false = true) : ∃ v, σ[i]? = some (some v) ∧ OwnAt K S H v d := by
  have hl : i < σ.length := by rw [r.len]; exact (List.getElem?_eq_some_iff.mp h).1
  have q := r.slot i _ _ (List.getElem?_eq_getElem hl) h
  rw [ho] at q
  cases e : σ[i] with
  | none => rw [e] at q; exact q.elim
  | some v => rw [e] at q; exact ⟨v, by rw [List.getElem?_eq_getElem hl, e], q⟩
/-- an owned slot's cell holds what is known -/
theorem Rel.owned (r : Rel K S H os σ ρ) {a : Addr} (h : Own os σ a) : S a = none ∧ ∃ o, H a = some o := by
  obtain ⟨i, ho, e⟩ := h
  have hl : i < ρ.length := by rw [← r.len]; exact (List.getElem?_eq_some_iff.mp e).1
  have q := r.slot i _ _ e (List.getElem?_eq_getElem hl)
  rw [ho] at q
  cases ed : ρ[i] with
  | none => rw [ed] at q; exact q.elim
  | some d =>
    rw [ed] at q
    obtain ⟨b, o, e1, n, e2⟩ := OwnAt.some_ (show OwnAt K S H (.ref a) d from q)
    cases e1
    exact ⟨n, o, e2⟩

/-! ### freezing -/
/-- all cells of the slots that are freed stand from now on -/
theorem getD_set_self {os : Os} {i : Nat} : (os.set i false).getD i false = false := by
  by_cases h : i < os.length
  · simp [List.getD, h]
  · rw [List.getD, List.getElem?_eq_none (by rw [List.length_set]; omega)]; rfl
theorem getD_set_ne {os : Os} {i j : Nat} {b : Bool} (h : i ≠ j) : (os.set i b).getD j false = os.getD j false := by
  simp [List.getD, List.getElem?_set_ne h]
theorem freeze1 (r : Rel K S H os σ ρ) (i : Nat) : ∃ S', Same S S' ∧ Rel K S' H (os.set i false) σ ρ ∧ Stp os σ S H (os.set i false) σ S' H ∧ ∀ v d, os.getD i false = true → σ[i]? = some (some v) → ρ[i]? = some (some d) → At K S' v d := by
  have hle : ∀ j, (os.set i false).getD j false = true → os.getD j false = true ∧ j ≠ i := fun j h => by
    by_cases e : i = j
    · subst e; rw [getD_set_self] at h; cases h
    · rw [getD_set_ne e] at h; exact ⟨h, fun z => e z.symm⟩
  have hown : ∀ a, Own (os.set i false) σ a → Own os σ a := fun a ⟨j, h, e⟩ => ⟨j, (hle j h).1, e⟩
  by_cases ho : os.getD i false = true
  · -- is the slot filled?
    by_cases hf : ∃ v d, σ[i]? = some (some v) ∧ ρ[i]? = some (some d)
    · obtain ⟨v, d, ev, ed⟩ := hf
      have q0 : OwnAt K S H v d := by
        have q := r.slot i _ _ ev ed
        rw [ho] at q
        exact q
      obtain ⟨a, e, n, qq⟩ := q0
      subst e
      -- the cell's object
      have key : ∀ o, H a = some o → At K (upd S a o) (.ref a) d → ∃ S', Same S S' ∧ Rel K S' H (os.set i false) σ ρ ∧ Stp os σ S H (os.set i false) σ S' H ∧ ∀ v d, os.getD i false = true → σ[i]? = some (some v) → ρ[i]? = some (some d) → At K S' v d := fun o eh hat => by
        have sm : Same S (upd S a o) := fun b x e => by
          have hb : b ≠ a := fun z => by rw [z, n] at e; cases e
          rw [upd_ne hb]; exact e
        have sh : Same (upd S a o) H := fun b x e => by
          by_cases hb : b = a
          · subst hb; rw [upd_same] at e; rw [eh]; exact e
          · rw [upd_ne hb] at e; exact r.sub b x e
        have ext : Ext (Own os σ) S H (upd S a o) H := ⟨sm, sh, fun b x e nb no => by
          have hb : b ≠ a := fun z => no (by rw [z]; exact ⟨i, ho, ev⟩)
          rw [upd_ne hb]; exact ⟨e, nb⟩, fun _ e => e⟩
        refine ⟨upd S a o, sm, ⟨sh, r.len, fun j x y e1 e2 => ?_, fun j k b h1 h2 e1 e2 => r.sep j k b (hle j h1).1 (hle k h2).1 e1 e2⟩, ⟨ext, fun b q => .inl (hown b q)⟩, fun v' d' _ e1 e2 => ?_⟩
        · by_cases hj : i = j
          · subst hj
            rw [ev] at e1; rw [ed] at e2; cases e1; cases e2
            rw [getD_set_self]; exact hat
          · rw [getD_set_ne hj]
            have q := r.slot j x y e1 e2
            cases hoj : os.getD j false <;> rw [hoj] at q <;> cases x <;> cases y <;> simp only [SlotAt] at q ⊢
            · exact q.mono sm
            · rename_i w z
              obtain ⟨b, eb, nb, q⟩ := q
              have hb : b ≠ a := fun z => hj (r.sep i j a ho hoj ev (by rw [e1, eb, z]))
              refine ⟨b, eb, by rw [upd_ne hb]; exact nb, ?_⟩
              obtain ⟨o', eh', bd⟩ := q
              exact ⟨o', eh', bd.mono sm⟩
        · rw [ev] at e1; rw [ed] at e2; cases e1; cases e2; exact hat
      obtain ⟨o, eh, bd⟩ := qq
      exact key _ eh ((bd.mono fun b x e => by
          have hb : b ≠ a := fun z => by rw [z, n] at e; cases e
          rw [upd_ne hb]; exact e).at upd_same)
    · refine ⟨S, Same.refl _, ⟨r.sub, r.len, fun j x y e1 e2 => ?_, fun j k b h1 h2 e1 e2 => r.sep j k b (hle j h1).1 (hle k h2).1 e1 e2⟩, ⟨Ext.refl r.sub, fun b q => .inl (hown b q)⟩, fun v' d' _ e1 e2 => (hf ⟨_, _, e1, e2⟩).elim⟩
      by_cases hj : i = j
      · subst hj
        rw [getD_set_self]
        have q := r.slot i x y e1 e2
        rw [ho] at q
        cases x <;> cases y <;> simp only [SlotAt] at q ⊢
        exact (hf ⟨_, _, e1, e2⟩).elim
      · rw [getD_set_ne hj]; exact r.slot j x y e1 e2
  · have hof : os.getD i false = false := by cases h : os.getD i false <;> simp_all
    have hsame : ∀ j, (os.set i false).getD j false = os.getD j false := fun j => by
      by_cases e : i = j
      · subst e; rw [getD_set_self, hof]
      · exact getD_set_ne e
    exact ⟨S, Same.refl _, ⟨r.sub, r.len, fun j x y e1 e2 => by rw [hsame]; exact r.slot j x y e1 e2, fun j k b h1 h2 => r.sep j k b (by rw [← hsame]; exact h1) (by rw [← hsame]; exact h2)⟩, ⟨Ext.refl r.sub, fun b q => .inl (hown b q)⟩, fun v d h => absurd h (by rw [hof]; decide)⟩
end
end
end SW

set_option maxRecDepth 100000
/-! SW2: outcomes, posts, judgements by data (VE, VT, VA, VG, VI, VS), the rules of names, constants, operators, displays, calls. -/
namespace SW
open PySem PySem.Spec PyProof.Rows L2

inductive Out (α : Type) where
  | ok (a : α) | exc (c : Str) (fs : Option (Str × D)) | stuck
def Out.bind {α β : Type} : Out α → (α → Out β) → Out β
  | .ok a, k => k a
  | .exc c fs, _ => .exc c fs
  | .stuck, _ => .stuck
def Out.of {α : Type} : Option α → Out α
  | some a => .ok a
  | none => .stuck

/-- an exception of the class that stands by the name c, with its one field or none -/
def ExcAt (K : PySem.W.Frag) (mg : Str → Option Value) (S : Hp) (c : Str) (fs : Option (Str × D)) (cls : Value) (dd : Option Addr) : Prop :=
  mg c = some cls ∧ match fs with
    | none => dd = none
    | some (f, d) => ∃ a v, dd = some a ∧ S a = some (.xd [(f, v)]) ∧ At K S v d

abbrev RR (α β : Type) := Hp → Hp → Hp → β → α → Prop
/-- what is known of a new value v that is d -/
def RV (K : PySem.W.Frag) (r : Bool) : RR D V := fun H S' H' v d => if r = true then OwnAt K S' H' v d ∧ ∀ a, v = .ref a → H a = none else At K S' v d
def RB : RR Bool Bool := fun _ _ _ b c => b = c
def RL (K : PySem.W.Frag) (n : Nat) : RR (List D) (List V) := fun _ S' _ vs ds => AtL K S' vs ds ∧ ds.length = n
def RR.Ok {α β : Type} (R : RR α β) : Prop := ∀ H H1 S' H' b d, (∀ a, H1 a = none → H a = none) → R H1 S' H' b d → R H S' H' b d
theorem RV.ok {K : PySem.W.Frag} {r : Bool} : (RV K r).Ok := fun H H1 S' H' b d h q => by
  cases r
  · exact q
  · exact ⟨q.1, fun a e => h a (q.2 a e)⟩
theorem RB.ok : RB.Ok := fun _ _ _ _ _ _ _ q => q
theorem RL.ok {K : PySem.W.Frag} {n : Nat} : (RL K n).Ok := fun _ _ _ _ _ _ _ q => q

/-- what is wanted behind an outcome -/
def Post {α β : Type} (X : Cx) (W : WX) (S H : Hp) (os : Os) (σ : Sg) (os' : Os) (R : RR α β) (Q : β → Hp → Prop) : Out (α × Rho) → Prop
  | .ok (d, ρ') => ∀ b S' H', Stp os σ S H os' σ S' H' → Rel X.K S' H' os' σ ρ' → R H S' H' b d → Q b H'
  | .exc c fs => ∀ S' H' cls dd, Ext (Own os σ) S H S' H' → ExcAt X.K X.mg S' c fs cls dd → W cls dd σ H'
  | .stuck => False

section
variable {X : Cx} {W : WX} {α β γ : Type} {S H S1 H1 : Hp} {os os1 os2 : Os} {σ : Sg} {R : RR α β} {Q : β → Hp → Prop}
theorem Post.step (hR : R.Ok) {x : Out (α × Rho)} (p : Post X W S H os σ os2 R Q x) (s : Stp os σ S H os1 σ S1 H1) : Post X W S1 H1 os1 σ os2 R Q x := by
  cases x with
  | ok z => exact fun b S' H' s' r q => p b S' H' (s.trans s') r (hR _ _ _ _ _ _ s.ext.there q)
  | exc c fs => exact fun S' H' cls dd e q => p S' H' cls dd (s.ext.trans e s.own) q
  | stuck => exact p
theorem Post.seq {F : Out γ → Prop} {x : Out (α × Rho)} {k : α × Rho → Out γ} (P : F (x.bind k)) (hs : ¬ F .stuck)
    (he : ∀ c fs, F (.exc c fs) → ∀ S' H' cls dd, Ext (Own os σ) S H S' H' → ExcAt X.K X.mg S' c fs cls dd → W cls dd σ H')
    (h : ∀ d ρ1 b S1 H1, Stp os σ S H os1 σ S1 H1 → Rel X.K S1 H1 os1 σ ρ1 → R H S1 H1 b d → F (k (d, ρ1)) → Q b H1) : Post X W S H os σ os1 R Q x := by
  cases x with
  | ok z => exact fun b S' H' s' r q => h z.1 z.2 b S' H' s' r q P
  | exc c fs => exact he c fs P
  | stuck => exact hs P
/-- the end of a chain -/
theorem Post.fin {os' : Os} {d : α} {ρ1 : Rho} {b : β} (P : Post X W S1 H1 os1 σ os1 R Q (.ok (d, ρ1))) (rel : Rel X.K S1 H1 os1 σ ρ1) (q : R H1 S1 H1 b d) : Q b H1 :=
  P b S1 H1 (Stp.refl rel.sub) rel q
end

/-! ### the judgements -/
def VE (X : Cx) (W : WX) (os : Os) (e : Expr) (f : Rho → Out (D × Rho)) (os' : Os) (r : Bool) : Prop :=
  ∃ t, PE X e t ∧ ∀ S σ H ρ Q, Rel X.K S H os σ ρ → Post X W S H os σ os' (RV X.K r) Q (f ρ) → t σ H Q
def VT (X : Cx) (W : WX) (os : Os) (e : Expr) (f : Rho → Out (Bool × Rho)) (os' : Os) : Prop :=
  ∃ t, PT X e t ∧ ∀ S σ H ρ Q, Rel X.K S H os σ ρ → Post X W S H os σ os' RB Q (f ρ) → t σ H Q
def VW (X : Cx) (W : WX) (os : Os) (e : Expr) (f : Rho → Out (Bool × Rho)) (os' : Os) : Prop :=
  ∃ t, PW X e t ∧ ∀ S σ H ρ Q, Rel X.K S H os σ ρ → Post X W S H os σ os' RB Q (f ρ) → t σ H Q
def VA (X : Cx) (W : WX) (os : Os) (es : List Expr) (f : Rho → Out (List D × Rho)) (os' : Os) : Prop :=
  ∃ t, PA X es t ∧ ∀ S σ H ρ Q, Rel X.K S H os σ ρ → Post X W S H os σ os' (RL X.K es.length) Q (f ρ) → t σ H Q

/-! ### their plain functions -/
def eVar (i : Nat) : Rho → Out (D × Rho) := fun ρ => match ρ.getD i none with
  | some d => .ok (d, ρ)
  | none => .stuck
def eCon (d : D) : Rho → Out (D × Rho) := fun ρ => .ok (d, ρ)
def eOp2 (g : D → D → Option D) (f1 f2 : Rho → Out (D × Rho)) : Rho → Out (D × Rho) := fun ρ =>
  (f1 ρ).bind fun p => (f2 p.2).bind fun q => (Out.of (g p.1 q.1)).bind fun c => .ok (c, q.2)
def eOp1 (g : D → Option D) (f1 : Rho → Out (D × Rho)) : Rho → Out (D × Rho) := fun ρ =>
  (f1 ρ).bind fun p => (Out.of (g p.1)).bind fun c => .ok (c, p.2)
def aNil : Rho → Out (List D × Rho) := fun ρ => .ok ([], ρ)
def aCons (f : Rho → Out (D × Rho)) (g : Rho → Out (List D × Rho)) : Rho → Out (List D × Rho) := fun ρ =>
  (f ρ).bind fun p => (g p.2).bind fun q => .ok (p.1 :: q.1, q.2)
def eTup (g : Rho → Out (List D × Rho)) : Rho → Out (D × Rho) := fun ρ => (g ρ).bind fun p => .ok (.tup p.1, p.2)
def eLst (g : Rho → Out (List D × Rho)) : Rho → Out (D × Rho) := fun ρ => (g ρ).bind fun p => .ok (.lst p.1, p.2)
/-- a built-in that gives a value of its arguments alone -/
def eArg (h : List D → Option D) (g : Rho → Out (List D × Rho)) : Rho → Out (D × Rho) := fun ρ =>
  (g ρ).bind fun p => (Out.of (h p.1)).bind fun c => .ok (c, p.2)
def eIf (c : Rho → Out (Bool × Rho)) (f g : Rho → Out (D × Rho)) : Rho → Out (D × Rho) := fun ρ => (c ρ).bind fun p => if p.1 = true then f p.2 else g p.2
def tVal (f : Rho → Out (D × Rho)) : Rho → Out (Bool × Rho) := fun ρ => (f ρ).bind fun p => match p.1 with
  | .bl b => .ok (b, p.2)
  | _ => .stuck
def tNotF (f : Rho → Out (Bool × Rho)) : Rho → Out (Bool × Rho) := fun ρ => (f ρ).bind fun p => .ok (!p.1, p.2)
def tAndF (f g : Rho → Out (Bool × Rho)) : Rho → Out (Bool × Rho) := fun ρ => (f ρ).bind fun p => if p.1 = true then g p.2 else .ok (false, p.2)
def tOrF (f g : Rho → Out (Bool × Rho)) : Rho → Out (Bool × Rho) := fun ρ => (f ρ).bind fun p => if p.1 = true then .ok (true, p.2) else g p.2
def eB (f : Rho → Out (Bool × Rho)) : Rho → Out (D × Rho) := fun ρ => (f ρ).bind fun p => .ok (.bl p.1, p.2)

/-! ### rules -/
theorem getD_le {fx os : Os} (h : (List.range fx.length).all (fun i => !fx.getD i false || os.getD i false) = true) {i : Nat} (hf : fx.getD i false = true) : os.getD i false = true := by
  have hi : i < fx.length := by
    rcases Nat.lt_or_ge i fx.length with h1 | h1
    · exact h1
    · rw [List.getD, List.getElem?_eq_none h1] at hf; cases hf
  have q := List.all_eq_true.mp h i (List.mem_range.mpr hi)
  rw [hf] at q
  simpa using q
/-- the slots of the first own by the second -/
abbrev Le (fx os : Os) : Prop := (List.range fx.length).all (fun i => !fx.getD i false || os.getD i false) = true
section
variable {X : Cx} {W : WX} {os os1 os2 os3 : Os} {e e1 e2 : Expr} {f f1 f2 : Rho → Out (D × Rho)} {pos : Pos} {r r1 r2 : Bool}

theorem ve_var (i : Nat) {x : Str} (hN : X.N[i]? = some x := by rfl) (hv : Vis X.env.scope x := by first | exact Or.inl rfl | exact Or.inr (Or.inl rfl) | exact Or.inr (Or.inr rfl)) (ho : os.getD i false = false := by rfl)
    (hd : (x == ("__debug__" : Str)) = false := by decide) (hcd : (x == ("__classdict__" : Str)) = false := by decide) : VE X W os (.Name x pos) (eVar i) os false := by
  refine ⟨_, pe_var hN hv hd hcd, fun S σ H ρ Q rel P => ?_⟩
  unfold eVar at P
  cases h : ρ.getD i none with
  | none => rw [h] at P; exact P.elim
  | some d =>
    rw [h] at P
    have e : ρ[i]? = some (some d) := by
      cases q : ρ[i]? with
      | none => simp [List.getD, q] at h
      | some y => simp [List.getD, q] at h; rw [h]
    obtain ⟨v, ev, hat⟩ := rel.val e ho
    exact ⟨v, ev, P.fin (os' := os) rel hat⟩
/-- an owning name is read as a value: it stands from now on -/
theorem ve_varF (i : Nat) {x : Str} (hN : X.N[i]? = some x := by rfl) (hv : Vis X.env.scope x := by first | exact Or.inl rfl | exact Or.inr (Or.inl rfl) | exact Or.inr (Or.inr rfl)) (ho : os.getD i false = true := by rfl)
    (hd : (x == ("__debug__" : Str)) = false := by decide) (hcd : (x == ("__classdict__" : Str)) = false := by decide) : VE X W os (.Name x pos) (eVar i) (os.set i false) false := by
  refine ⟨_, pe_var hN hv hd hcd, fun S σ H ρ Q rel P => ?_⟩
  unfold eVar at P
  cases h : ρ.getD i none with
  | none => rw [h] at P; exact P.elim
  | some d =>
    rw [h] at P
    have e : ρ[i]? = some (some d) := by
      cases q : ρ[i]? with
      | none => simp [List.getD, q] at h
      | some y => simp [List.getD, q] at h; rw [h]
    obtain ⟨v, ev, _⟩ := rel.own e ho
    obtain ⟨S', _, rel', st, k⟩ := freeze1 rel i
    exact ⟨v, ev, P v S' H st rel' (k v d ho ev e)⟩
theorem ve_int {i j} : VE X W os (.Constant (.int i) j pos) (eCon (.int i)) os false := ⟨_, pe_int, fun S σ H ρ Q rel P => P.fin (os' := os) rel (.int i)⟩
theorem ve_bl {b j} : VE X W os (.Constant (.bool b) j pos) (eCon (.bl b)) os false := ⟨_, pe_bl, fun S σ H ρ Q rel P => P.fin (os' := os) rel (.bl b)⟩
theorem ve_non {j} : VE X W os (.Constant .none j pos) (eCon .non) os false := ⟨_, pe_non, fun S σ H ρ Q rel P => P.fin (os' := os) rel .non⟩
theorem ve_str {x j} : VE X W os (.Constant (.str x) j pos) (eCon (.str x)) os false := ⟨_, pe_str, fun S σ H ρ Q rel P => P.fin (os' := os) rel (.str x)⟩
/-- a module's constant -/
theorem ve_glob {x : Str} {v : V} {u : Value} {d : D} (hm : X.mg x = some u) (hr : RelV v u) (hat : ∀ S, At X.K S v d) (hg : Gl X x := by rfl) (hd : (x == ("__debug__" : Str)) = false := by decide) : VE X W os (.Name x pos) (eCon d) os false :=
  ⟨_, pe_glob hg hm hr hd, fun S σ H ρ Q rel P => P.fin (os' := os) rel (hat _)⟩

/-- an operator on two values, by data -/
def Op2 (X : Cx) (f : Value → Value → Sem Value) (g : D → D → Option D) : Prop :=
  ∃ r, OpR X f r ∧ ∀ S H x y a b c Q, Same S H → At X.K S x a → At X.K S y b → g a b = some c → (∀ v S' H', Ext (fun _ => False) S H S' H' → At X.K S' v c → Q v H') → r x y H Q
def Op1 (X : Cx) (f : Value → Sem Value) (g : D → Option D) : Prop :=
  ∃ r, UnR X f r ∧ ∀ S H x a c Q, Same S H → At X.K S x a → g a = some c → (∀ v S' H', Ext (fun _ => False) S H S' H' → At X.K S' v c → Q v H') → r x H Q

theorem Stp.of_ext {os : Os} {σ : Sg} {S H S' H' : Hp} (x : Ext (fun _ => False) S H S' H') : Stp os σ S H os σ S' H' := ⟨x.weak fun _ z => z.elim, fun _ q => .inl q⟩
theorem Rel.ext0 {K : PySem.W.Frag} {os : Os} {σ : Sg} {ρ : Rho} {S H S' H' : Hp} (r : Rel K S H os σ ρ) (x : Ext (fun _ => False) S H S' H') : Rel K S' H' os σ ρ := r.grow x fun _ _ z => z

theorem post_of {g : Option D} {S H : Hp} {os : Os} {σ : Sg} {ρ : Rho} {Q : VK} (P : Post X W S H os σ os (RV X.K false) Q ((Out.of g).bind fun c => .ok (c, ρ))) (rel : Rel X.K S H os σ ρ) :
    ∃ c, g = some c ∧ ∀ v S' H', Ext (fun _ => False) S H S' H' → At X.K S' v c → Q v H' := by
  cases g with
  | none => exact P.elim
  | some c => exact ⟨c, rfl, fun v S' H' x hat => P v S' H' (Stp.of_ext x) (rel.ext0 x) hat⟩

theorem ve_bin {op : Operator} {g : D → D → Option D} (ho : Op2 X (binaryOp op) g) (ha : VE X W os e1 f1 os1 false) (hb : VE X W os1 e2 f2 os2 false) : VE X W os (.BinOp e1 op e2 pos) (eOp2 g f1 f2) os2 false := by
  obtain ⟨ta, pa, ka⟩ := ha
  obtain ⟨tb, pb, kb⟩ := hb
  obtain ⟨rr, po, ko⟩ := ho
  refine ⟨_, pe_op po pa pb, fun S σ H ρ Q rel P => ?_⟩
  refine ka S σ H ρ _ rel (Post.seq P (fun z => z) (fun c fs p => p) fun d ρ1 v S1 H1 st1 rel1 q1 P1 => ?_)
  have P1 := P1.step RV.ok st1
  refine kb S1 σ H1 ρ1 _ rel1 (Post.seq P1 (fun z => z) (fun c fs p => p) fun d2 ρ2 v2 S2 H2 st2 rel2 q2 P2 => ?_)
  obtain ⟨c, hc, k⟩ := post_of (P2.step RV.ok st2) rel2
  exact ko S2 H2 v v2 d d2 c _ rel2.sub (At.mono st2.ext.s q1) q2 hc k
theorem ve_un {op : UnaryOp} {g : D → Option D} (ho : Op1 X (unaryOp op) g) (ha : VE X W os e1 f1 os1 false) : VE X W os (.UnaryOp op e1 pos) (eOp1 g f1) os1 false := by
  obtain ⟨ta, pa, ka⟩ := ha
  obtain ⟨rr, po, ko⟩ := ho
  refine ⟨_, pe_un po pa, fun S σ H ρ Q rel P => ?_⟩
  refine ka S σ H ρ _ rel (Post.seq P (fun z => z) (fun c fs p => p) fun d ρ1 v S1 H1 st1 rel1 q1 P1 => ?_)
  obtain ⟨c, hc, k⟩ := post_of (P1.step RV.ok st1) rel1
  exact ko S1 H1 v d c _ rel1.sub q1 hc k
theorem ve_cmp {op : CmpOp} {g : D → D → Option D} (ho : Op2 X (compareOp op) g) (ha : VE X W os e1 f1 os1 false) (hb : VE X W os1 e2 f2 os2 false) (hm : behindInMarks op e2 = false := by first | exact nomark _ | rfl) :
    VE X W os (.Compare e1 [op] [e2] pos) (eOp2 g f1 f2) os2 false := by
  obtain ⟨ta, pa, ka⟩ := ha
  obtain ⟨tb, pb, kb⟩ := hb
  obtain ⟨rr, po, ko⟩ := ho
  refine ⟨_, pe_cmpR po pa pb hm, fun S σ H ρ Q rel P => ?_⟩
  refine ka S σ H ρ _ rel (Post.seq P (fun z => z) (fun c fs p => p) fun d ρ1 v S1 H1 st1 rel1 q1 P1 => ?_)
  have P1 := P1.step RV.ok st1
  refine kb S1 σ H1 ρ1 _ rel1 (Post.seq P1 (fun z => z) (fun c fs p => p) fun d2 ρ2 v2 S2 H2 st2 rel2 q2 P2 => ?_)
  obtain ⟨c, hc, k⟩ := post_of (P2.step RV.ok st2) rel2
  exact ko S2 H2 v v2 d d2 c _ rel2.sub (At.mono st2.ext.s q1) q2 hc k

/-! ### argument lists, displays -/
theorem va_nil : VA X W os [] aNil os := ⟨_, pa_nil, fun S σ H ρ Q rel P => P.fin (os' := os) rel ⟨.nil, rfl⟩⟩
theorem va_cons {es : List Expr} {g : Rho → Out (List D × Rho)} (ha : VE X W os e f os1 false) (hb : VA X W os1 es g os2) (hs : starEach (e :: es) X.env = (false, eval e X.env) :: starEach es X.env := by rfl) :
    VA X W os (e :: es) (aCons f g) os2 := by
  obtain ⟨ta, pa, ka⟩ := ha
  obtain ⟨tb, pb, kb⟩ := hb
  refine ⟨_, pa_cons pa pb hs, fun S σ H ρ Q rel P => ?_⟩
  refine ka S σ H ρ _ rel (Post.seq P (fun z => z) (fun c fs p => p) fun d ρ1 v S1 H1 st1 rel1 q1 P1 => ?_)
  have P1 := P1.step RL.ok st1
  refine kb S1 σ H1 ρ1 _ rel1 (Post.seq P1 (fun z => z) (fun c fs p => p) fun d2 ρ2 v2 S2 H2 st2 rel2 q2 P2 => ?_)
  exact (P2.step RL.ok st2).fin (os' := os2) rel2 ⟨.cons (At.mono st2.ext.s q1) q2.1, by rw [List.length_cons, List.length_cons, q2.2]⟩
theorem sz1000 {n : Nat} (h : n ≤ 1000) : n ≤ sizeLine := Nat.le_of_lt (small1000 h)
theorem ve_tup {es : List Expr} {g : Rho → Out (List D × Rho)} {x1} (ha : VA X W os es g os1) (hz : es.length ≤ 1000 := by decide) : VE X W os (.Tuple es x1 pos) (eTup g) os1 false := by
  obtain ⟨ta, pa, ka⟩ := ha
  refine ⟨_, pe_tup pa, fun S σ H ρ Q rel P => ?_⟩
  refine ka S σ H ρ _ rel (Post.seq P (fun z => z) (fun c fs p => p) fun d ρ1 vs S1 H1 st1 rel1 q1 P1 => ?_)
  refine ⟨by rw [q1.1.length, q1.2]; exact sz1000 hz, fun p np => ?_⟩
  have x := Ext.new (O := fun _ => False) (o := .tup vs) rel1.sub np
  exact (P1.step RV.ok st1) _ _ _ (Stp.of_ext x) (rel1.ext0 x) (.tup (.inl (.inl upd_same)) (by rw [q1.2]; exact sz1000 hz) (q1.1.mono x.s))
/-- a new list is told: it stands from now on -/
theorem VE.fz (ha : VE X W os e f os1 true) (hle : Le os1 os := by rfl) : VE X W os e f os1 false := by
  obtain ⟨ta, pa, ka⟩ := ha
  refine ⟨_, pa, fun S σ H ρ Q rel P => ?_⟩
  refine ka S σ H ρ _ rel ?_
  cases h : f ρ with
  | exc c fs => rw [h] at P; exact P
  | stuck => rw [h] at P; exact P
  | ok z =>
    obtain ⟨d, ρ1⟩ := z
    rw [h] at P
    intro v S1 H1 st1 rel1 q1
    have q1 : OwnAt X.K S1 H1 v d ∧ ∀ a, v = .ref a → H a = none := q1
    obtain ⟨⟨a, e, n, qq⟩, fr⟩ := q1
    subst e
    have na := fr a rfl
    have key : ∀ o, H1 a = some o → (Same S1 (upd S1 a o) → At X.K (upd S1 a o) (.ref a) d) → Q (.ref a) H1 := fun o eh hat => by
      have sm : Same S1 (upd S1 a o) := fun b x e => by
        have hb : b ≠ a := fun z => by rw [z, n] at e; cases e
        rw [upd_ne hb]; exact e
      have sh : Same (upd S1 a o) H1 := fun b x e => by
        by_cases hb : b = a
        · subst hb; rw [upd_same] at e; rw [eh]; exact e
        · rw [upd_ne hb] at e; exact rel1.sub b x e
      have hno : ∀ j, os1.getD j false = true → σ[j]? ≠ some (some (.ref a)) := fun j hj hs => by
        obtain ⟨_, o, eo⟩ := rel.owned ⟨j, getD_le hle hj, hs⟩
        rw [na] at eo
        cases eo
      refine P (.ref a) (upd S1 a o) H1 ⟨⟨st1.ext.s.trans sm, sh, fun b x e nb no => ?_, st1.ext.there⟩, st1.own⟩ ⟨sh, rel1.len, fun j x y e1 e2 => ?_, rel1.sep⟩ (hat sm)
      · obtain ⟨e1, n1⟩ := st1.ext.fr b x e nb no
        rw [upd_ne (ne_of_none e na)]
        exact ⟨e1, n1⟩
      · have q := rel1.slot j x y e1 e2
        cases hoj : os1.getD j false <;> rw [hoj] at q <;> cases x <;> cases y <;> simp only [SlotAt] at q ⊢
        · exact q.mono sm
        · obtain ⟨b, eb, nb, q⟩ := q
          subst eb
          have hb : b ≠ a := fun z => hno j hoj (by rw [e1, z])
          refine ⟨b, rfl, by rw [upd_ne hb]; exact nb, ?_⟩
          obtain ⟨o', eh', bd⟩ := q
          exact ⟨o', eh', bd.mono sm⟩
    obtain ⟨o, eh, bd⟩ := qq
    exact key _ eh fun sm => (bd.mono sm).at upd_same
/-- a list display -/
theorem ve_lstO {es : List Expr} {g : Rho → Out (List D × Rho)} (ha : VA X W os es g os1) (hz : es.length ≤ 1000 := by decide) : VE X W os (.List es pos) (eLst g) os1 true := by
  obtain ⟨ta, pa, ka⟩ := ha
  refine ⟨_, pe_lst pa, fun S σ H ρ Q rel P => ?_⟩
  refine ka S σ H ρ _ rel (Post.seq P (fun z => z) (fun c fs p => p) fun d ρ1 vs S1 H1 st1 rel1 q1 P1 => ?_)
  refine ⟨by rw [q1.1.length, q1.2]; exact sz1000 hz, fun p np => ?_⟩
  have x := Ext.newO (O := fun _ => False) (o := .lst vs) rel1.sub np
  exact (P1.step RV.ok st1) _ _ _ (Stp.of_ext x) (rel1.ext0 x) ⟨.mkL (rel1.sub.free np) upd_same (by rw [q1.2]; exact sz1000 hz) (q1.1), fun a e => by cases e; exact np⟩

/-! ### tests -/
theorem vt_val (ha : VE X W os e f os1 false) (he : ∀ whole, isTrue e X.env whole = (do let v ← whole; standAt e.pos; holding [v] (truthy v)) := by intro _; rfl) : VT X W os e (tVal f) os1 := by
  obtain ⟨ta, pa, ka⟩ := ha
  refine ⟨_, pt_val pa he, fun S σ H ρ Q rel P => ?_⟩
  refine ka S σ H ρ _ rel (Post.seq P (fun z => z) (fun c fs p => p) fun d ρ1 v S1 H1 st1 rel1 q1 P1 => ?_)
  cases q1 with
  | bl b => exact ⟨b, rfl, (P1.step RB.ok st1).fin (os' := os1) rel1 rfl⟩
  | _ => exact P1.elim
theorem vt_cmp {op : CmpOp} {g : D → D → Option D} (ho : Op2 X (compareOp op) g) (ha : VE X W os e1 f1 os1 false) (hb : VE X W os1 e2 f2 os2 false) (hm : behindInMarks op e2 = false := by first | exact nomark _ | rfl) :
    VT X W os (.Compare e1 [op] [e2] pos) (tVal (eOp2 g f1 f2)) os2 := by
  obtain ⟨ta, pa, ka⟩ := ha
  obtain ⟨tb, pb, kb⟩ := hb
  obtain ⟨rr, po, ko⟩ := ho
  refine ⟨_, pt_cmpR po pa pb hm, fun S σ H ρ Q rel P => ?_⟩
  have P : Post X W S H os σ os2 RB Q ((f1 ρ).bind fun p => ((f2 p.2).bind fun q => (Out.of (g p.1 q.1)).bind fun c => Out.ok (c, q.2)).bind fun p => match p.1 with
    | .bl b => Out.ok (b, p.2)
    | _ => Out.stuck) := by
    unfold tVal eOp2 at P
    cases h : f1 ρ <;> rw [h] at P <;> exact P
  refine ka S σ H ρ _ rel (Post.seq P (fun z => z) (fun c fs p => p) fun d ρ1 v S1 H1 st1 rel1 q1 P1 => ?_)
  have P1 := P1.step RB.ok st1
  have P1 : Post X W S1 H1 os1 σ os2 RB Q ((f2 ρ1).bind fun q => ((Out.of (g d q.1)).bind fun c => Out.ok (c, q.2)).bind fun p => match p.1 with
    | .bl b => Out.ok (b, p.2)
    | _ => Out.stuck) := by
    dsimp only at P1
    cases h : f2 ρ1 <;> rw [h] at P1 <;> exact P1
  refine kb S1 σ H1 ρ1 _ rel1 (Post.seq P1 (fun z => z) (fun c fs p => p) fun d2 ρ2 v2 S2 H2 st2 rel2 q2 P2 => ?_)
  have P2 := P2.step RB.ok st2
  dsimp only at P2
  cases hc : g d d2 with
  | none => rw [hc] at P2; exact P2.elim
  | some c =>
    rw [hc] at P2
    refine ko S2 H2 v v2 d d2 c _ rel2.sub (At.mono st2.ext.s q1) q2 hc fun v' S' H' x hat => ?_
    cases hat with
    | bl b => exact ⟨b, rfl, P2 b S' H' (Stp.of_ext x) (rel2.ext0 x) rfl⟩
    | _ => exact P2.elim
theorem VW.vt {g : Rho → Out (Bool × Rho)} (h : VW X W os e g os1) : VT X W os e g os1 := by
  obtain ⟨t, p, k⟩ := h
  exact ⟨t, p.pt, k⟩
section
variable {g g1 g2 : Rho → Out (Bool × Rho)} {a b : Expr} {rest : List Expr}
theorem vt_not (h : VT X W os a g os1) : VT X W os (.UnaryOp .Not a pos) (tNotF g) os1 := by
  obtain ⟨t, p, k⟩ := h
  refine ⟨_, pt_not p, fun S σ H ρ Q rel P => ?_⟩
  refine k S σ H ρ _ rel (Post.seq P (fun z => z) (fun c fs p => p) fun d ρ1 v S1 H1 st1 rel1 q1 P1 => ?_)
  cases q1
  exact (P1.step RB.ok st1).fin (os' := os1) rel1 rfl
theorem vw_and1 (h : VT X W os a g os1) : VW X W os (.BoolOp .And [a] pos) g os1 := by
  obtain ⟨t, p, k⟩ := h
  exact ⟨t, pw_and1 p, k⟩
theorem vw_or1 (h : VT X W os a g os1) : VW X W os (.BoolOp .Or [a] pos) g os1 := by
  obtain ⟨t, p, k⟩ := h
  exact ⟨t, pw_or1 p, k⟩
theorem vw_and (h : VT X W os a g1 os) (h2 : VW X W os (.BoolOp .And (b :: rest) pos) g2 os) : VW X W os (.BoolOp .And (a :: b :: rest) pos) (tAndF g1 g2) os := by
  obtain ⟨t, p, k⟩ := h
  obtain ⟨t2, p2, k2⟩ := h2
  refine ⟨_, pw_and p p2, fun S σ H ρ Q rel P => ?_⟩
  refine k S σ H ρ _ rel (Post.seq P (fun z => z) (fun c fs p => p) fun d ρ1 v S1 H1 st1 rel1 q1 P1 => ?_)
  cases q1
  cases d with
  | true => exact k2 S1 σ H1 ρ1 Q rel1 (Post.step RB.ok P1 st1)
  | false => exact (Post.step RB.ok P1 st1).fin (os' := os) rel1 rfl
theorem vw_or (h : VT X W os a g1 os) (h2 : VW X W os (.BoolOp .Or (b :: rest) pos) g2 os) : VW X W os (.BoolOp .Or (a :: b :: rest) pos) (tOrF g1 g2) os := by
  obtain ⟨t, p, k⟩ := h
  obtain ⟨t2, p2, k2⟩ := h2
  refine ⟨_, pw_or p p2, fun S σ H ρ Q rel P => ?_⟩
  refine k S σ H ρ _ rel (Post.seq P (fun z => z) (fun c fs p => p) fun d ρ1 v S1 H1 st1 rel1 q1 P1 => ?_)
  cases q1
  cases d with
  | true => exact (Post.step RB.ok P1 st1).fin (os' := os) rel1 rfl
  | false => exact k2 S1 σ H1 ρ1 Q rel1 (Post.step RB.ok P1 st1)
theorem ve_if {c : Expr} (h : VT X W os c g os1) (ha : VE X W os1 a f1 os2 false) (hb : VE X W os1 b f2 os2 false) : VE X W os (.IfExp c a b pos) (eIf g f1 f2) os2 false := by
  obtain ⟨t, p, k⟩ := h
  obtain ⟨ta, pa, ka⟩ := ha
  obtain ⟨tb, pb, kb⟩ := hb
  refine ⟨_, pe_ifExp p pa pb, fun S σ H ρ Q rel P => ?_⟩
  refine k S σ H ρ _ rel (Post.seq P (fun z => z) (fun c fs p => p) fun d ρ1 v S1 H1 st1 rel1 q1 P1 => ?_)
  cases q1
  cases d with
  | true => exact ka S1 σ H1 ρ1 Q rel1 (Post.step RV.ok P1 st1)
  | false => exact kb S1 σ H1 ρ1 Q rel1 (Post.step RV.ok P1 st1)
/-! and, or, not as values (truths) -/
def eAndF (f g : Rho → Out (D × Rho)) : Rho → Out (D × Rho) := fun ρ => (f ρ).bind fun p => match p.1 with
  | .bl true => g p.2
  | .bl false => .ok (.bl false, p.2)
  | _ => .stuck
def eOrF (f g : Rho → Out (D × Rho)) : Rho → Out (D × Rho) := fun ρ => (f ρ).bind fun p => match p.1 with
  | .bl true => .ok (.bl true, p.2)
  | .bl false => g p.2
  | _ => .stuck
def eNotF (f : Rho → Out (D × Rho)) : Rho → Out (D × Rho) := fun ρ => (f ρ).bind fun p => match p.1 with
  | .bl b => .ok (.bl (!b), p.2)
  | _ => .stuck
theorem ve_one {op} (h : VE X W os a f os1 false) : VE X W os (.BoolOp op [a] pos) f os1 false := by
  obtain ⟨t, p, k⟩ := h
  exact ⟨t, pe_one p, k⟩
theorem ve_and (h : VE X W os a f1 os false) (h2 : VE X W os (.BoolOp .And (b :: rest) pos) f2 os false) : VE X W os (.BoolOp .And (a :: b :: rest) pos) (eAndF f1 f2) os false := by
  obtain ⟨t, p, k⟩ := h
  obtain ⟨t2, p2, k2⟩ := h2
  refine ⟨_, pe_and p p2, fun S σ H ρ Q rel P => ?_⟩
  refine k S σ H ρ _ rel (Post.seq P (fun z => z) (fun c fs p => p) fun d ρ1 v S1 H1 st1 rel1 q1 P1 => ?_)
  cases q1 with
  | bl c =>
    cases c with
    | true => exact ⟨true, rfl, k2 S1 σ H1 ρ1 Q rel1 (Post.step RV.ok P1 st1)⟩
    | false => exact ⟨false, rfl, (Post.step RV.ok P1 st1).fin (os' := os) rel1 (.bl false)⟩
  | _ => exact P1.elim
theorem ve_or (h : VE X W os a f1 os false) (h2 : VE X W os (.BoolOp .Or (b :: rest) pos) f2 os false) : VE X W os (.BoolOp .Or (a :: b :: rest) pos) (eOrF f1 f2) os false := by
  obtain ⟨t, p, k⟩ := h
  obtain ⟨t2, p2, k2⟩ := h2
  refine ⟨_, pe_or p p2, fun S σ H ρ Q rel P => ?_⟩
  refine k S σ H ρ _ rel (Post.seq P (fun z => z) (fun c fs p => p) fun d ρ1 v S1 H1 st1 rel1 q1 P1 => ?_)
  cases q1 with
  | bl c =>
    cases c with
    | true => exact ⟨true, rfl, (Post.step RV.ok P1 st1).fin (os' := os) rel1 (.bl true)⟩
    | false => exact ⟨false, rfl, k2 S1 σ H1 ρ1 Q rel1 (Post.step RV.ok P1 st1)⟩
  | _ => exact P1.elim
theorem ve_not (h : VE X W os a f os1 false) : VE X W os (.UnaryOp .Not a pos) (eNotF f) os1 false := by
  obtain ⟨t, p, k⟩ := h
  refine ⟨_, pe_not p, fun S σ H ρ Q rel P => ?_⟩
  refine k S σ H ρ _ rel (Post.seq P (fun z => z) (fun c fs p => p) fun d ρ1 v S1 H1 st1 rel1 q1 P1 => ?_)
  cases q1 with
  | bl c => exact ⟨c, rfl, (Post.step RV.ok P1 st1).fin (os' := os1) rel1 (.bl _)⟩
  | _ => exact P1.elim
end
end
end SW

set_option maxRecDepth 100000
/-! SW3: what a def promises by data (spec), calls, statements, targets, a def by its body. -/
namespace SW
open PySem PySem.Spec PyProof.Rows L2

/-! ### slots stored -/
section
variable {K : PySem.W.Frag} {S S' H H' : Hp} {os os' : Os} {σ σ' : Sg} {ρ ρ' : Rho} {i : Nat} {v : V} {d : D}
theorem getD_set {os : Os} {i j : Nat} {b : Bool} : (os.set i b).getD j false = true → (j ≠ i ∧ os.getD j false = true) ∨ (j = i ∧ b = true) := fun h => by
  by_cases e : i = j
  · subst e
    refine .inr ⟨rfl, ?_⟩
    by_cases hl : i < os.length
    · simpa [List.getD, hl] using h
    · rw [List.getD, List.getElem?_eq_none (by rw [List.length_set]; omega)] at h; cases h
  · rw [getD_set_ne e] at h; exact .inl ⟨fun z => e z.symm, h⟩
theorem own_set {a : Addr} (h : Own (os.set i false) (σ.set i (some v)) a) : Own os σ a := by
  obtain ⟨j, h1, h2⟩ := h
  rcases getD_set h1 with ⟨hj, h1⟩ | ⟨_, z⟩
  · rw [List.getElem?_set_ne (fun z => hj z.symm)] at h2; exact ⟨j, h1, h2⟩
  · cases z
theorem Rel.set (r : Rel K S H os σ ρ) (hv : At K S v d) (i : Nat) : Rel K S H (os.set i false) (σ.set i (some v)) (ρ.set i (some d)) where
  sub := r.sub
  len := by rw [List.length_set, List.length_set]; exact r.len
  slot := fun j x y e1 e2 => by
    by_cases hj : i = j
    · subst hj
      have hl : i < σ.length := by
        have := (List.getElem?_eq_some_iff.mp e1).1
        rwa [List.length_set] at this
      rw [List.getElem?_set_self hl] at e1
      rw [List.getElem?_set_self (by rw [← r.len]; exact hl)] at e2
      cases e1; cases e2
      rw [getD_set_self]; exact hv
    · rw [List.getElem?_set_ne hj] at e1 e2
      rw [getD_set_ne hj]; exact r.slot j x y e1 e2
  sep := fun j k a h1 h2 e1 e2 => by
    rcases getD_set h1 with ⟨hj, h1⟩ | ⟨_, z⟩
    · rcases getD_set h2 with ⟨hk, h2⟩ | ⟨_, z⟩
      · rw [List.getElem?_set_ne (fun z => hj z.symm)] at e1
        rw [List.getElem?_set_ne (fun z => hk z.symm)] at e2
        exact r.sep j k a h1 h2 e1 e2
      · cases z
    · cases z
theorem Rel.setO (r : Rel K S H os σ ρ) (hv : OwnAt K S H v d) (hn : ∀ a, v = .ref a → ∀ j, j ≠ i → os.getD j false = true → σ[j]? ≠ some (some (.ref a))) (hi : i < os.length) : Rel K S H (os.set i true) (σ.set i (some v)) (ρ.set i (some d)) where
  sub := r.sub
  len := by rw [List.length_set, List.length_set]; exact r.len
  slot := fun j x y e1 e2 => by
    by_cases hj : i = j
    · subst hj
      have hl : i < σ.length := by
        have := (List.getElem?_eq_some_iff.mp e1).1
        rwa [List.length_set] at this
      rw [List.getElem?_set_self hl] at e1
      rw [List.getElem?_set_self (by rw [← r.len]; exact hl)] at e2
      cases e1; cases e2
      have e : (os.set i true).getD i false = true := by simp [List.getD, hi]
      rw [e]; exact hv
    · rw [List.getElem?_set_ne hj] at e1 e2
      rw [getD_set_ne hj]; exact r.slot j x y e1 e2
  sep := fun j k a h1 h2 e1 e2 => by
    rcases getD_set h1 with ⟨hj, h1'⟩ | ⟨hj, _⟩
    · rw [List.getElem?_set_ne (fun z => hj z.symm)] at e1
      rcases getD_set h2 with ⟨hk, h2'⟩ | ⟨hk, _⟩
      · rw [List.getElem?_set_ne (fun z => hk z.symm)] at e2
        exact r.sep j k a h1' h2' e1 e2
      · subst hk
        have hl : k < σ.length := by
          have := (List.getElem?_eq_some_iff.mp e2).1
          rwa [List.length_set] at this
        rw [List.getElem?_set_self hl] at e2
        cases e2
        exact (hn a rfl j hj h1' e1).elim
    · rcases getD_set h2 with ⟨hk, h2'⟩ | ⟨hk, _⟩
      · rw [List.getElem?_set_ne (fun z => hk z.symm)] at e2
        subst hj
        have hl : j < σ.length := by
          have := (List.getElem?_eq_some_iff.mp e1).1
          rwa [List.length_set] at this
        rw [List.getElem?_set_self hl] at e1
        cases e1
        exact (hn a rfl k hk h2' e2).elim
      · rw [hj, hk]
theorem own_setO {a : Addr} (h : Own (os.set i true) (σ.set i (some v)) a) : Own os σ a ∨ v = .ref a := by
  obtain ⟨j, h1, h2⟩ := h
  rcases getD_set h1 with ⟨hj, h1⟩ | ⟨hj, _⟩
  · rw [List.getElem?_set_ne (fun z => hj z.symm)] at h2; exact .inl ⟨j, h1, h2⟩
  · subst hj
    have hl : j < σ.length := by
      have := (List.getElem?_eq_some_iff.mp h2).1
      rwa [List.length_set] at this
    rw [List.getElem?_set_self hl] at h2
    cases h2
    exact .inr rfl
/-- the cell of an owning slot holds other data now -/
theorem Rel.turn (r : Rel K S H os σ ρ) {a : Addr} (ho : os.getD i false = true) (hs : σ[i]? = some (some (.ref a))) {o : HO} (hn : OwnAt K S (upd H a o) (.ref a) d) : Rel K S (upd H a o) os σ (ρ.set i (some d)) where
  sub := fun b x e => by
    have hb : b ≠ a := fun z => by
      obtain ⟨a', e', n, _⟩ := hn
      cases e'
      rw [z, n] at e; cases e
    rw [upd_ne hb]; exact r.sub b x e
  len := by rw [List.length_set]; exact r.len
  slot := fun j x y e1 e2 => by
    by_cases hj : i = j
    · subst hj
      rw [hs] at e1
      have hl : i < ρ.length := by
        have := (List.getElem?_eq_some_iff.mp e2).1
        rwa [List.length_set] at this
      rw [List.getElem?_set_self hl] at e2
      cases e1; cases e2
      rw [ho]; exact hn
    · rw [List.getElem?_set_ne hj] at e2
      have q := r.slot j x y e1 e2
      cases hoj : os.getD j false <;> rw [hoj] at q <;> cases x <;> cases y <;> simp only [SlotAt] at q ⊢
      · exact q
      · obtain ⟨b, eb, nb, q⟩ := q
        subst eb
        have hb : b ≠ a := fun z => hj (r.sep i j a ho hoj hs (by rw [e1, z]))
        refine ⟨b, rfl, nb, ?_⟩
        rw [upd_ne hb]; exact q
  sep := r.sep
theorem Stp.turn (r : Rel K S H os σ ρ) {a : Addr} (ho : os.getD i false = true) (hs : σ[i]? = some (some (.ref a))) {o : HO} : Stp os σ S H os σ S (upd H a o) :=
  ⟨Ext.turn r.sub (r.owned ⟨i, ho, hs⟩).1 ⟨i, ho, hs⟩, fun _ q => .inl q⟩
end

/-! ### a def's promise, by data -/
def osP : Option Nat → Os
  | none => []
  | some k => List.replicate k false ++ [true]
/-- n parameters; pm: the parameter whose list or dict the def turns; r: the told list is a new one, the asker's own; m: the value and what the turned one holds then -/
def spec (K : PySem.W.Frag) (mg : Str → Option Value) (n : Nat) (pm : Option Nat) (r : Bool) (m : List D → Out (D × D)) : Sp := fun vs H Q E =>
  vs.length = n ∧ ∃ S ds, Rel K S H (osP pm) (vs.map some) (ds.map some) ∧ match m ds with
    | .ok (d, o) => ∀ v S' H', Ext (Own (osP pm) (vs.map some)) S H S' H' → RV K r H S' H' v d → (∀ k u, pm = some k → vs[k]? = some u → OwnAt K S' H' u o) → Q v H'
    | .exc c fs => ∀ S' H' cls dd, Ext (Own (osP pm) (vs.map some)) S H S' H' → ExcAt K mg S' c fs cls dd → E cls dd H'
    | .stuck => False

theorem rel_args {K : PySem.W.Frag} {S H : Hp} {vs : List V} {ds : List D} (h : AtL K S vs ds) (sub : Same S H) : Rel K S H [] (vs.map some) (ds.map some) where
  sub := sub
  len := by rw [List.length_map, List.length_map, h.length]
  slot := fun i x y e1 e2 => by
    rw [List.getElem?_map] at e1 e2
    cases ed : ds[i]? with
    | none => rw [ed] at e2; cases e2
    | some d =>
      obtain ⟨v, ev, hat⟩ := h.get ed
      rw [ed] at e2; rw [ev] at e1
      cases e1; cases e2
      exact hat
  sep := fun i j a h1 => by simp [List.getD] at h1
theorem own_nil {σ : Sg} {a : Addr} (h : Own [] σ a) : False := by
  obtain ⟨i, h, _⟩ := h
  simp [List.getD] at h

def eCall (m : List D → Out (D × D)) (g : Rho → Out (List D × Rho)) : Rho → Out (D × Rho) := fun ρ => (g ρ).bind fun p => (m p.1).bind fun q => .ok (q.1, p.2)

section
variable {X : Cx} {W : WX} {os os1 os2 os3 : Os} {e e1 e2 : Expr} {f f1 f2 : Rho → Out (D × Rho)} {pos p : Pos} {r r1 r2 : Bool} {es : List Expr} {g : Rho → Out (List D × Rho)}
theorem ve_call {x : Str} {k : Nat} {fa : Addr} {fd : FuncData} {ps : List Str} {m : List D → Out (D × D)} (F : FnOk X.prog X.w X.K X.mg X.base (L2.CX X.prog X.w) k fa fd ps (spec X.K X.mg (es.length + 1) none r m)) (tk : Takes X W)
    (hr : Room k X.A) (hm : X.mg x = some (.ref fa)) (hk : PySem.W.keepIn X.K (.ref fa) = true) (hb : Binds X.K fd ps []) (ha : VA X W os (e :: es) g os1) (hg : Gl X x := by rfl) (hdb : (x == ("__debug__" : Str)) = false := by decide)
    (he : starEach (e :: es) X.env = (false, eval e X.env) :: starEach es X.env := by rfl) (hpl : (backTo pos (starEach es X.env)).any (·.1) = false := by rfl) :
    VE X W os (.Call (.Name x p) (e :: es) [] pos) (eCall m g) os1 r := by
  obtain ⟨ta, pa, ka⟩ := ha
  refine ⟨_, pe_callS F hr hg hm hk hb (fun σ => passAt tk σ) pa hdb he hpl, fun S σ H ρ Q rel P => ?_⟩
  refine ka S σ H ρ _ rel (Post.seq P (fun z => z) (fun c fs p => p) fun ds ρ1 vs S1 H1 st1 rel1 q1 P1 => ?_)
  have P1 := P1.step RV.ok st1
  refine ⟨by rw [q1.1.length, q1.2]; rfl, S1, ds, rel_args q1.1 rel1.sub, ?_⟩
  dsimp only at P1
  cases hmd : m ds with
  | ok z =>
    rw [hmd] at P1
    intro v S' H' x q _
    have x' : Ext (fun _ => False) S1 H1 S' H' := x.weak fun _ z => own_nil z
    exact P1 v S' H' (Stp.of_ext x') (rel1.ext0 x') q
  | exc c fs =>
    rw [hmd] at P1
    exact fun S' H' cls dd x q => P1 S' H' cls dd (x.weak fun _ z => (own_nil z).elim) q
  | stuck => rw [hmd] at P1; exact P1.elim

/-! ### calls that turn what one name holds -/
/-- the arguments' list has at place k the owning slot i itself -/
def RLB (K : PySem.W.Frag) (σ : Sg) (n k i : Nat) : RR (List D) (List V) := fun _ S' _ vs ds => vs.length = n ∧ ds.length = n ∧ (∃ u, vs[k]? = some u ∧ σ[i]? = some (some u)) ∧ ∀ j d, j ≠ k → ds[j]? = some d → ∃ v, vs[j]? = some v ∧ At K S' v d
theorem RLB.ok {K : PySem.W.Frag} {σ : Sg} {n k i : Nat} : (RLB K σ n k i).Ok := fun _ _ _ _ _ _ _ q => q
def VB (X : Cx) (W : WX) (os : Os) (es : List Expr) (k i : Nat) (f : Rho → Out (List D × Rho)) (os' : Os) : Prop :=
  ∃ t, PA X es t ∧ ∀ S σ H ρ Q, Rel X.K S H os σ ρ → Post X W S H os σ os' (RLB X.K σ es.length k i) Q (f ρ) → t σ H Q
def aHole (g : Rho → Out (List D × Rho)) : Rho → Out (List D × Rho) := fun ρ => (g ρ).bind fun p => .ok (.non :: p.1, p.2)
theorem vb_here (i : Nat) {x : Str} (ha : VA X W os es g os1) (ho : os.getD i false = true := by rfl) (hN : X.N[i]? = some x := by rfl) (hv : Vis X.env.scope x := by first | exact Or.inl rfl | exact Or.inr (Or.inl rfl) | exact Or.inr (Or.inr rfl))
    (hd : (x == ("__debug__" : Str)) = false := by decide) (hcd : (x == ("__classdict__" : Str)) = false := by decide) (hs : starEach (.Name x p :: es) X.env = (false, eval (.Name x p) X.env) :: starEach es X.env := by rfl) :
    VB X W os (.Name x p :: es) 0 i (fun ρ => match ρ.getD i none with | some _ => aHole g ρ | none => .stuck) os1 := by
  obtain ⟨ta, pa, ka⟩ := ha
  refine ⟨_, pa_cons (pe_var hN hv hd hcd) pa hs, fun S σ H ρ Q rel P => ?_⟩
  cases h : ρ.getD i none with
  | none => dsimp only at P; rw [h] at P; exact P.elim
  | some d =>
    dsimp only at P; rw [h] at P
    have e : ρ[i]? = some (some d) := by
      cases q : ρ[i]? with
      | none => simp [List.getD, q] at h
      | some y => simp [List.getD, q] at h; rw [h]
    obtain ⟨v, ev, _⟩ := rel.own e ho
    refine ⟨v, ev, ?_⟩
    refine ka S σ H ρ _ rel (Post.seq P (fun z => z) (fun c fs p => p) fun ds ρ1 vs S1 H1 st1 rel1 q1 P1 => ?_)
    refine (P1.step RLB.ok st1).fin (os' := os1) rel1 ⟨by rw [List.length_cons, List.length_cons, q1.1.length, q1.2], by rw [List.length_cons, List.length_cons, q1.2], ⟨v, rfl, ev⟩, fun j d hj ed => ?_⟩
    cases j with
    | zero => exact (hj rfl).elim
    | succ j => exact q1.1.get (i := j) (by simpa using ed)
theorem vb_there {k i : Nat} (ha : VE X W os e f os1 false) (hb : VB X W os1 es k i g os2) (hs : starEach (e :: es) X.env = (false, eval e X.env) :: starEach es X.env := by rfl) : VB X W os (e :: es) (k + 1) i (aCons f g) os2 := by
  obtain ⟨ta, pa, ka⟩ := ha
  obtain ⟨tb, pb, kb⟩ := hb
  refine ⟨_, pa_cons pa pb hs, fun S σ H ρ Q rel P => ?_⟩
  refine ka S σ H ρ _ rel (Post.seq P (fun z => z) (fun c fs p => p) fun d ρ1 v S1 H1 st1 rel1 q1 P1 => ?_)
  have P1 := P1.step RLB.ok st1
  refine kb S1 σ H1 ρ1 _ rel1 (Post.seq P1 (fun z => z) (fun c fs p => p) fun d2 ρ2 v2 S2 H2 st2 rel2 q2 P2 => ?_)
  obtain ⟨h1, h2, h3, h4⟩ := q2
  refine (P2.step RLB.ok st2).fin (os' := os2) rel2 ⟨by rw [List.length_cons, List.length_cons, h1], by rw [List.length_cons, List.length_cons, h2], by simpa using h3, fun j d' hj ed => ?_⟩
  cases j with
  | zero => cases (show some d = some d' by simpa using ed); exact ⟨v, rfl, At.mono st2.ext.s q1⟩
  | succ j => simpa using h4 j d' (fun z => hj (by rw [z])) (by simpa using ed)

def eCallM (m : List D → Out (D × D)) (k i : Nat) (g : Rho → Out (List D × Rho)) : Rho → Out (D × Rho) := fun ρ => (g ρ).bind fun p => match p.2.getD i none with
  | some d => (m (p.1.set k d)).bind fun q => .ok (q.1, p.2.set i (some q.2))
  | none => .stuck
theorem osP_get {k j : Nat} : (osP (some k)).getD j false = true ↔ j = k := by
  unfold osP
  constructor
  · intro h
    by_cases h1 : j < k
    · simp [List.getD, List.getElem?_append, h1] at h
    · by_cases h2 : j = k
      · exact h2
      · rw [List.getD, List.getElem?_eq_none (by simp; omega)] at h; cases h
  · intro h
    subst h
    simp [List.getD]
theorem ve_callM {x : Str} {kk k i : Nat} {fa : Addr} {fd : FuncData} {ps : List Str} {m : List D → Out (D × D)} (F : FnOk X.prog X.w X.K X.mg X.base (L2.CX X.prog X.w) kk fa fd ps (spec X.K X.mg (es.length + 1) (some k) r m)) (tk : Takes X W)
    (hr : Room kk X.A) (hm : X.mg x = some (.ref fa)) (hk : PySem.W.keepIn X.K (.ref fa) = true) (hb : Binds X.K fd ps []) (ha : VB X W os (e :: es) k i g os1) (ho : os1.getD i false = true := by rfl) (hg : Gl X x := by rfl) (hdb : (x == ("__debug__" : Str)) = false := by decide)
    (he : starEach (e :: es) X.env = (false, eval e X.env) :: starEach es X.env := by rfl) (hpl : (backTo pos (starEach es X.env)).any (·.1) = false := by rfl) :
    VE X W os (.Call (.Name x p) (e :: es) [] pos) (eCallM m k i g) os1 r := by
  obtain ⟨ta, pa, ka⟩ := ha
  refine ⟨_, pe_callS F hr hg hm hk hb (fun σ => passAt tk σ) pa hdb he hpl, fun S σ H ρ Q rel P => ?_⟩
  refine ka S σ H ρ _ rel (Post.seq P (fun z => z) (fun c fs p => p) fun ds ρ1 vs S1 H1 st1 rel1 q1 P1 => ?_)
  have P1 := P1.step RV.ok st1
  obtain ⟨l1, l2, ⟨u, ku, eu⟩, q1⟩ := q1
  dsimp only at P1
  cases hd : ρ1.getD i none with
  | none => rw [hd] at P1; exact P1.elim
  | some d =>
    rw [hd] at P1
    dsimp only at P1
    have e1 : ρ1[i]? = some (some d) := by
      cases q : ρ1[i]? with
      | none => simp [List.getD, q] at hd
      | some y => simp [List.getD, q] at hd; rw [hd]
    obtain ⟨u', eu', hown⟩ := rel1.own e1 ho
    have eqq := eu.symm.trans eu'
    cases eqq
    have hkl : k < ds.length := by rw [l2, ← l1]; exact (List.getElem?_eq_some_iff.mp ku).1
    refine ⟨l1, S1, ds.set k d, ⟨rel1.sub, by rw [List.length_map, List.length_map, List.length_set, l1, l2], fun j x y e1 e2 => ?_, fun j j' a h1 h2 _ _ => by rw [osP_get.mp h1, osP_get.mp h2]⟩, ?_⟩
    · rw [List.getElem?_map] at e1 e2
      by_cases hj : j = k
      · subst hj
        rw [osP_get.mpr rfl]
        rw [ku] at e1
        rw [List.getElem?_set_self hkl] at e2
        cases e1; cases e2
        exact hown
      · have hf : (osP (some k)).getD j false = false := by
          cases h : (osP (some k)).getD j false
          · rfl
          · exact (hj (osP_get.mp h)).elim
        rw [hf]
        rw [List.getElem?_set_ne (fun z => hj z.symm)] at e2
        cases ed : ds[j]? with
        | none => rw [ed] at e2; cases e2
        | some d' =>
          obtain ⟨v, ev, hat⟩ := q1 j d' hj ed
          rw [ed] at e2; rw [ev] at e1
          cases e1; cases e2
          exact hat
    · have conv : ∀ a, Own (osP (some k)) (vs.map some) a → σ[i]? = some (some (.ref a)) := fun a ⟨j, h1, h2⟩ => by
        have hj := osP_get.mp h1
        subst hj
        rw [List.getElem?_map, ku] at h2
        have h3 : u = .ref a := by simpa using h2
        rw [eu, h3]
      have hsub : ∀ a, Own (osP (some k)) (vs.map some) a → Own os1 σ a := fun a h => ⟨i, ho, conv a h⟩
      cases hmd : m (ds.set k d) with
      | ok z =>
        rw [hmd] at P1
        intro v S' H' x q qo
        have qo := qo k u rfl ku
        refine P1 v S' H' ⟨x.weak hsub, fun _ q => .inl q⟩ ⟨x.sh, by rw [List.length_set]; exact rel1.len, fun j xx yy e1 e2 => ?_, rel1.sep⟩ q
        by_cases hj : i = j
        · subst hj
          have hl : i < ρ1.length := by
            have := (List.getElem?_eq_some_iff.mp e2).1
            rwa [List.length_set] at this
          rw [List.getElem?_set_self hl] at e2
          rw [eu] at e1
          cases e1; cases e2
          rw [ho]; exact qo
        · rw [List.getElem?_set_ne hj] at e2
          have qq := rel1.slot j xx yy e1 e2
          cases hoj : os1.getD j false <;> rw [hoj] at qq <;> cases xx <;> cases yy <;> simp only [SlotAt] at qq ⊢
          · exact qq.mono x.s
          · refine qq.ext x fun a ea hz => hj (rel1.sep i j a ho hoj (conv a hz) (by rw [e1, ea]))
      | exc c fs =>
        rw [hmd] at P1
        exact fun S' H' cls dd x q => P1 S' H' cls dd (x.weak hsub) q
      | stuck => rw [hmd] at P1; exact P1.elim
end
end SW

set_option maxRecDepth 100000
/-! SW4: statements: what is wanted behind them (PostS), the judgement VS, blocks, if, return, assignments, targets, a def by its body. -/
namespace SW
open PySem PySem.Spec PyProof.Rows L2

inductive Fl where
  | nx (ρ : Rho) | rt (d : D) (ρ : Rho) | bk (ρ : Rho) | ct (ρ : Rho)

/-- the slots that no statement stores -/
def FixOn (fx : Os) (σ σ' : Sg) : Prop := σ'.length = σ.length ∧ ∀ i, fx.getD i false = true → σ'[i]? = σ[i]?
theorem FixOn.refl {fx : Os} {σ : Sg} : FixOn fx σ σ := ⟨rfl, fun _ _ => rfl⟩
theorem FixOn.trans {fx : Os} {σ σ1 σ2 : Sg} (a : FixOn fx σ σ1) (b : FixOn fx σ1 σ2) : FixOn fx σ σ2 := ⟨b.1.trans a.1, fun i h => (b.2 i h).trans (a.2 i h)⟩

/-- a loop's and a def's own: where break and continue lead, what is told, which slots are fixed -/
structure Lc where
  fx : Os
  bk : Os
  ct : Os
  r : Bool

def RetAt (K : PySem.W.Frag) (r : Bool) (os : Os) (σ : Sg) (fx : Os) (H S' H' : Hp) (v : V) (d : D) : Prop :=
  if r = true then OwnAt K S' H' v d ∧ (∀ a, v = .ref a → H a = none ∨ Own os σ a) ∧ (∀ i, fx.getD i false = true → σ[i]? ≠ some (some v)) else At K S' v d

def PostS (X : Cx) (W : WX) (L : Lc) (S H : Hp) (os : Os) (σ : Sg) (osN : Os) (Ds : Ends) : Out Fl → Prop
  | .ok (.nx ρ') => ∀ σ' S' H', Stp os σ S H osN σ' S' H' → FixOn L.fx σ σ' → Rel X.K S' H' osN σ' ρ' → Ds.nx σ' H'
  | .ok (.bk ρ') => ∀ σ' S' H', Stp os σ S H L.bk σ' S' H' → FixOn L.fx σ σ' → Rel X.K S' H' L.bk σ' ρ' → Ds.bk σ' H'
  | .ok (.ct ρ') => ∀ σ' S' H', Stp os σ S H L.ct σ' S' H' → FixOn L.fx σ σ' → Rel X.K S' H' L.ct σ' ρ' → Ds.ct σ' H'
  | .ok (.rt d ρ') => ∀ v S' H', Ext (Own os σ) S H S' H' → RetAt X.K L.r os σ L.fx H S' H' v d →
      (∀ i u, L.fx.getD i false = true → σ[i]? = some (some u) → ∃ d', ρ'[i]? = some (some d') ∧ OwnAt X.K S' H' u d') → Ds.rt v H'
  | .exc c fs => ∀ σ' S' H' cls dd, Ext (Own os σ) S H S' H' → ExcAt X.K X.mg S' c fs cls dd → W cls dd σ' H'
  | .stuck => False

def VS (X : Cx) (W : WX) (L : Lc) (os : Os) (st : Stmt) (g : Rho → Out Fl) (osN : Os) : Prop :=
  ∃ t, PS X st t ∧ ∀ S σ H ρ Ds, Rel X.K S H os σ ρ → PostS X W L S H os σ osN Ds (g ρ) → t Ds σ H
def VSs (X : Cx) (W : WX) (L : Lc) (os : Os) (st : List Stmt) (g : Rho → Out Fl) (osN : Os) : Prop :=
  ∃ t, PSs X st t ∧ ∀ S σ H ρ Ds, Rel X.K S H os σ ρ → PostS X W L S H os σ osN Ds (g ρ) → t Ds σ H

section
variable {X : Cx} {W : WX} {L : Lc} {S H S1 H1 : Hp} {os os1 os2 osN : Os} {σ σ1 : Sg} {Ds : Ends}
theorem PostS.step {x : Out Fl} (p : PostS X W L S H os σ osN Ds x) (s : Stp os σ S H os1 σ1 S1 H1) (f : FixOn L.fx σ σ1) : PostS X W L S1 H1 os1 σ1 osN Ds x := by
  cases x with
  | ok z =>
    cases z with
    | nx ρ' => exact fun σ' S' H' s' f' r => p σ' S' H' (s.trans s') (f.trans f') r
    | bk ρ' => exact fun σ' S' H' s' f' r => p σ' S' H' (s.trans s') (f.trans f') r
    | ct ρ' => exact fun σ' S' H' s' f' r => p σ' S' H' (s.trans s') (f.trans f') r
    | rt d ρ' =>
      refine fun v S' H' e r hk => p v S' H' (s.ext.trans e s.own) ?_ fun i u hf hs => hk i u hf (by rw [f.2 i hf]; exact hs)
      unfold RetAt at r ⊢
      split
      · rename_i hr
        rw [if_pos hr] at r
        refine ⟨r.1, fun a ea => ?_, fun i hf => ?_⟩
        · rcases r.2.1 a ea with q | q
          · exact .inl (s.ext.there a q)
          · exact (s.own a q).symm
        · rw [← f.2 i hf]; exact r.2.2 i hf
      · rename_i hr
        rw [if_neg hr] at r
        exact r
  | exc c fs => exact fun σ' S' H' cls dd e q => p σ' S' H' cls dd (s.ext.trans e s.own) q
  | stuck => exact p
/-- an expression's outcome ahead of a statement's -/
theorem PostS.seqE {α β : Type} {R : RR α β} {Q : β → Hp → Prop} {x : Out (α × Rho)} {k : α × Rho → Out Fl} (P : PostS X W L S H os σ osN Ds (x.bind k))
    (h : ∀ d ρ1 b S1 H1, Stp os σ S H os1 σ S1 H1 → Rel X.K S1 H1 os1 σ ρ1 → R H S1 H1 b d → PostS X W L S1 H1 os1 σ osN Ds (k (d, ρ1)) → Q b H1) : Post X W S H os σ os1 R Q x :=
  Post.seq P (fun z => z) (fun _ _ p S' H' cls dd e q => p σ S' H' cls dd e q) fun d ρ1 b S1 H1 st rel q P => h d ρ1 b S1 H1 st rel q (PostS.step P st FixOn.refl)
theorem PostS.fin {ρ : Rho} (P : PostS X W L S H os σ os Ds (.ok (.nx ρ))) (rel : Rel X.K S H os σ ρ) : Ds.nx σ H := P σ S H (Stp.refl rel.sub) FixOn.refl rel
/-- a statement's outcome ahead of others -/
theorem PostS.seqS {x : Out Fl} {k : Rho → Out Fl} {N : L2.St → Hp → Prop} (P : PostS X W L S H os σ osN Ds (x.bind fun y => match y with | .nx ρ => k ρ | y => .ok y))
    (h : ∀ ρ1 σ1 S1 H1, Stp os σ S H os1 σ1 S1 H1 → FixOn L.fx σ σ1 → Rel X.K S1 H1 os1 σ1 ρ1 → PostS X W L S1 H1 os1 σ1 osN Ds (k ρ1) → N σ1 H1) : PostS X W L S H os σ os1 { Ds with nx := N } x := by
  cases x with
  | ok z =>
    cases z with
    | nx ρ' => exact fun σ' S' H' s' f' r => h ρ' σ' S' H' s' f' r (P.step s' f')
    | bk ρ' => exact P
    | ct ρ' => exact P
    | rt d ρ' => exact P
  | exc c fs => exact P
  | stuck => exact P
end

/-! ### the plain functions -/
def sSkip : Rho → Out Fl := fun ρ => .ok (.nx ρ)
def sSeq (g h : Rho → Out Fl) : Rho → Out Fl := fun ρ => (g ρ).bind fun y => match y with
  | .nx ρ => h ρ
  | y => .ok y
def sExpr (f : Rho → Out (D × Rho)) : Rho → Out Fl := fun ρ => (f ρ).bind fun p => .ok (.nx p.2)
def sRet (f : Rho → Out (D × Rho)) : Rho → Out Fl := fun ρ => (f ρ).bind fun p => .ok (.rt p.1 p.2)
def sRetN : Rho → Out Fl := fun ρ => .ok (.rt .non ρ)
def sIf (c : Rho → Out (Bool × Rho)) (g h : Rho → Out Fl) : Rho → Out Fl := fun ρ => (c ρ).bind fun p => if p.1 = true then g p.2 else h p.2
def sSet (i : Nat) (f : Rho → Out (D × Rho)) : Rho → Out Fl := fun ρ => (f ρ).bind fun p => .ok (.nx (p.2.set i (some p.1)))
def sStuck : Rho → Out Fl := fun _ => .stuck

section
variable {X : Cx} {W : WX} {L : Lc} {os os1 os2 os3 osN : Os} {e e1 e2 : Expr} {f f1 f2 : Rho → Out (D × Rho)} {pos p : Pos} {st : Stmt} {sts rest : List Stmt} {g h : Rho → Out Fl}
theorem vss_nil : VSs X W L os [] sSkip os := ⟨_, pss_nil, fun S σ H ρ Ds rel P => P.fin rel⟩
theorem vss_cons (a : VS X W L os st g os1) (b : VSs X W L os1 rest h os2) : VSs X W L os (st :: rest) (sSeq g h) os2 := by
  obtain ⟨t, pt, kt⟩ := a
  obtain ⟨u, pu, ku⟩ := b
  refine ⟨_, pss_cons pt pu, fun S σ H ρ Ds rel P => ?_⟩
  exact kt S σ H ρ _ rel (PostS.seqS P fun ρ1 σ1 S1 H1 s1 f1 r1 P1 => ku S1 σ1 H1 ρ1 Ds r1 P1)
theorem vss_one (a : VS X W L os st g os1) : VSs X W L os [st] g os1 := by
  obtain ⟨t, pt, kt⟩ := a
  exact ⟨t, pss_one pt, kt⟩
theorem vs_pass : VS X W L os (.Pass pos) sSkip os := ⟨_, ps_pass, fun S σ H ρ Ds rel P => P.fin rel⟩
theorem vs_stuck : VS X W L os st sStuck osN := ⟨_, ps_never, fun _ _ _ _ _ _ P => P⟩
theorem vss_stuck : VSs X W L os sts sStuck osN := ⟨_, pss_never, fun _ _ _ _ _ _ P => P⟩
theorem vs_expr {r : Bool} (he : VE X W os e f os1 r) (hs : swapsWith e none pos.line X.env = pure false := by rfl) : VS X W L os (.Expr e pos) (sExpr f) os1 := by
  obtain ⟨t, pt, kt⟩ := he
  refine ⟨_, ps_expr pt hs, fun S σ H ρ Ds rel P => ?_⟩
  exact kt S σ H ρ _ rel (PostS.seqE P fun d ρ1 v S1 H1 s1 r1 q1 P1 => P1.fin r1)
theorem fix_end {σ : Sg} {S H : Hp} {ρ : Rho} {fx : Os} (rel : Rel X.K S H os σ ρ) (hf : Le fx os) : ∀ i u, fx.getD i false = true → σ[i]? = some (some u) → ∃ d', ρ[i]? = some (some d') ∧ OwnAt X.K S H u d' := fun i u h hs => by
  have ho := getD_le hf h
  have hl : i < ρ.length := by rw [← rel.len]; exact (List.getElem?_eq_some_iff.mp hs).1
  have q := rel.slot i _ _ hs (List.getElem?_eq_getElem hl)
  rw [ho] at q
  cases ed : ρ[i] with
  | none => rw [ed] at q; exact q.elim
  | some d => rw [ed] at q; exact ⟨d, by rw [List.getElem?_eq_getElem hl, ed], q⟩
theorem vs_ret (he : VE X W os e f os1 false) (hr : L.r = false := by rfl) (hf : Le L.fx os1 := by rfl) : VS X W L os (.Return (some e) pos) (sRet f) osN := by
  obtain ⟨t, pt, kt⟩ := he
  refine ⟨_, ps_ret pt, fun S σ H ρ Ds rel P => ?_⟩
  refine kt S σ H ρ _ rel (PostS.seqE P fun d ρ1 v S1 H1 s1 r1 q1 P1 => ?_)
  exact P1 v S1 H1 (Ext.refl r1.sub) (by unfold RetAt; rw [hr]; exact q1) (fix_end r1 hf)
theorem vs_retO (he : VE X W os e f os1 true) (hr : L.r = true := by rfl) (hf : Le L.fx os1 := by rfl) (hf0 : Le L.fx os := by rfl) : VS X W L os (.Return (some e) pos) (sRet f) osN := by
  obtain ⟨t, pt, kt⟩ := he
  refine ⟨_, ps_ret pt, fun S σ H ρ Ds rel P => ?_⟩
  refine kt S σ H ρ _ rel (Post.seq P (fun z => z) (fun _ _ p S' H' cls dd e q => p σ S' H' cls dd e q) fun d ρ1 v S1 H1 s1 r1 q1 P1 => ?_)
  refine P1 v S1 H1 s1.ext ?_ (fix_end r1 hf)
  unfold RetAt
  rw [hr]
  refine ⟨q1.1, fun a ea => .inl (q1.2 a ea), fun i hi hs => ?_⟩
  obtain ⟨a, o, ea, na, _⟩ := OwnAt.some_ q1.1
  subst ea
  obtain ⟨n, o, eo⟩ := rel.owned ⟨i, getD_le hf0 hi, hs⟩
  rw [q1.2 a rfl] at eo
  cases eo
/-- what an owning name holds is told -/
theorem vs_retV (i : Nat) {x : Str} (ho : os.getD i false = true := by rfl) (hr : L.r = true := by rfl) (hf : Le L.fx os := by rfl) (hfi : L.fx.getD i false = false := by rfl) (hN : X.N[i]? = some x := by rfl)
    (hv : Vis X.env.scope x := by first | exact Or.inl rfl | exact Or.inr (Or.inl rfl) | exact Or.inr (Or.inr rfl)) (hd : (x == ("__debug__" : Str)) = false := by decide) (hcd : (x == ("__classdict__" : Str)) = false := by decide) :
    VS X W L os (.Return (some (.Name x p)) pos) (sRet (eVar i)) osN := by
  refine ⟨_, ps_ret (pe_var hN hv hd hcd), fun S σ H ρ Ds rel P => ?_⟩
  unfold sRet eVar at P
  cases h : ρ.getD i none with
  | none => rw [h] at P; exact P.elim
  | some d =>
    rw [h] at P
    have e : ρ[i]? = some (some d) := by
      cases q : ρ[i]? with
      | none => simp [List.getD, q] at h
      | some y => simp [List.getD, q] at h; rw [h]
    obtain ⟨v, ev, q⟩ := rel.own e ho
    refine ⟨v, ev, P v S H (Ext.refl rel.sub) ?_ (fix_end rel hf)⟩
    unfold RetAt
    rw [hr]
    refine ⟨q, fun a ea => .inr ⟨i, ho, by rw [ev, ea]⟩, fun j hj hs => ?_⟩
    obtain ⟨a, o, ea, _⟩ := OwnAt.some_ q
    have hij : i = j := rel.sep i j a ho (getD_le hf hj) (by rw [ev, ea]) (by rw [hs, ea])
    rw [← hij, hfi] at hj
    cases hj
theorem vs_retN (hr : L.r = false := by rfl) (hf : Le L.fx os := by rfl) : VS X W L os (.Return none pos) sRetN osN :=
  ⟨_, ps_retN, fun S σ H ρ Ds rel P => P .non S H (Ext.refl rel.sub) (by unfold RetAt; rw [hr]; exact .non) (fix_end rel hf)⟩
theorem vs_if {c : Expr} {a b : List Stmt} {gc : Rho → Out (Bool × Rho)} (hc : VT X W os c gc os1) (ha : VSs X W L os1 a g os2) (hb : VSs X W L os1 b h os2) : VS X W L os (.If c a b pos) (sIf gc g h) os2 := by
  obtain ⟨t, p, k⟩ := hc
  obtain ⟨ta, pa, ka⟩ := ha
  obtain ⟨tb, pb, kb⟩ := hb
  refine ⟨_, ps_if p pa pb, fun S σ H ρ Ds rel P => ?_⟩
  refine k S σ H ρ _ rel (PostS.seqE P fun d ρ1 v S1 H1 st1 rel1 q1 P1 => ?_)
  cases q1
  cases d with
  | true => exact ka S1 σ H1 ρ1 Ds rel1 P1
  | false => exact kb S1 σ H1 ρ1 Ds rel1 P1
theorem fix_set {fx : Os} {σ : Sg} {i : Nat} {v : Option V} (h : fx.getD i false = false) : FixOn fx σ (σ.set i v) := ⟨List.length_set, fun j hj => by
  have e : i ≠ j := fun z => by rw [← z, h] at hj; cases hj
  rw [List.getElem?_set_ne e]⟩
/-- x = e -/
theorem vs_set (i : Nat) {x : Str} (he : VE X W os e f os1 false) (hN : X.N.Nodup) (hi : X.N[i]? = some x := by rfl) (hx : Loc X.env.scope x := by first | exact Or.inl rfl | exact Or.inr rfl) (hfi : L.fx.getD i false = false := by rfl)
    (hs : swapsWith e (some (.Name x p)) pos.line X.env = pure false := by rfl) (hf : X.fn x = true ∨ X.env.scope.names.lookup x = some .local := by first | exact .inl rfl | exact .inr rfl | assumption) : VS X W L os (.Assign [.Name x p] e pos) (sSet i f) (os1.set i false) := by
  obtain ⟨t, pt, kt⟩ := he
  refine ⟨_, ps_set hN hi hx pt hs hf, fun S σ H ρ Ds rel P => ?_⟩
  refine kt S σ H ρ _ rel (PostS.seqE P fun d ρ1 v S1 H1 s1 r1 q1 P1 => ?_)
  exact P1 _ S1 H1 ⟨Ext.refl r1.sub, fun a q => .inl (own_set q)⟩ (fix_set hfi) (r1.set q1 i)
/-- x = e, x the owner of the new list or dict -/
theorem vs_setO (i : Nat) {x : Str} (he : VE X W os e f os1 true) (hN : X.N.Nodup) (hi : X.N[i]? = some x := by rfl) (hx : Loc X.env.scope x := by first | exact Or.inl rfl | exact Or.inr rfl) (hfi : L.fx.getD i false = false := by rfl) (hio : i < os1.length := by decide) (hle : Le os1 os := by rfl)
    (hs : swapsWith e (some (.Name x p)) pos.line X.env = pure false := by rfl) (hf : X.fn x = true ∨ X.env.scope.names.lookup x = some .local := by first | exact .inl rfl | exact .inr rfl | assumption) : VS X W L os (.Assign [.Name x p] e pos) (sSet i f) (os1.set i true) := by
  obtain ⟨t, pt, kt⟩ := he
  refine ⟨_, ps_set hN hi hx pt hs hf, fun S σ H ρ Ds rel P => ?_⟩
  refine kt S σ H ρ _ rel (Post.seq P (fun z => z) (fun _ _ p S' H' cls dd e q => p σ S' H' cls dd e q) fun d ρ1 v S1 H1 s1 r1 q1 P1 => ?_)
  refine P1 _ S1 H1 ⟨s1.ext, fun a q => ?_⟩ (fix_set hfi) (r1.setO q1.1 (fun a ea j hj ho hs => ?_) hio)
  · rcases own_setO q with q | q
    · exact s1.own a q
    · exact .inr (q1.2 a q)
  · obtain ⟨n, o, eo⟩ := rel.owned ⟨j, getD_le hle ho, hs⟩
    rw [q1.2 a ea] at eo
    cases eo

/-! ### targets of any form -/
/-- only the slots of ch are stored -/
def ChOn (ch : List Nat) (σ σ' : Sg) : Prop := σ'.length = σ.length ∧ ∀ i, i ∉ ch → σ'[i]? = σ[i]?
theorem ChOn.fix {ch : List Nat} {σ σ' : Sg} {fx : Os} (h : ChOn ch σ σ') (hf : ch.all (fun i => !fx.getD i false) = true) : FixOn fx σ σ' := ⟨h.1, fun i hi => h.2 i fun hm => by
  have q := List.all_eq_true.mp hf i hm
  rw [hi] at q
  cases q⟩
def VG (X : Cx) (os : Os) (tg : Expr) (b : D → Rho → Option Rho) (ch : List Nat) (os' : Os) : Prop :=
  ∃ t, PG X tg t ∧ ∀ S σ H ρ v d ρ' Q, Rel X.K S H os σ ρ → At X.K S v d → b d ρ = some ρ' → (∀ σ', Rel X.K S H os' σ' ρ' → ChOn ch σ σ' → (∀ a, Own os' σ' a → Own os σ a) → Q σ' H) → t v σ H Q
def VGs (X : Cx) (os : Os) (tgs : List Expr) (b : List D → Rho → Option Rho) (ch : List Nat) (os' : Os) : Prop :=
  ∃ t, PGs X tgs t ∧ ∀ S σ H ρ vs ds ρ' Q, Rel X.K S H os σ ρ → AtL X.K S vs ds → b ds ρ = some ρ' → (∀ σ', Rel X.K S H os' σ' ρ' → ChOn ch σ σ' → (∀ a, Own os' σ' a → Own os σ a) → Q σ' H) → t vs σ H Q
def gName (i : Nat) : D → Rho → Option Rho := fun d ρ => some (ρ.set i (some d))
def gNil : List D → Rho → Option Rho := fun ds ρ => match ds with
  | [] => some ρ
  | _ => none
def gCons (b : D → Rho → Option Rho) (c : List D → Rho → Option Rho) : List D → Rho → Option Rho := fun ds ρ => match ds with
  | d :: r => (b d ρ).bind fun ρ1 => c r ρ1
  | [] => none
def gTup (n : Nat) (c : List D → Rho → Option Rho) : D → Rho → Option Rho := fun d ρ => match d with
  | .tup ds => if ds.length = n then c ds ρ else none
  | .lst ds => if ds.length = n then c ds ρ else none
  | _ => none
theorem pg_or {e : Expr} {t1 t2 : TG} (h1 : PG X e t1) (h2 : PG X e t2) : PG X e (fun v σ H Q => t1 v σ H Q ∨ t2 v σ H Q) := ⟨fun pins s σ H v u Q I r q => q.elim (h1.run pins s σ H v u Q I r) (h2.run pins s σ H v u Q I r)⟩
variable {ch ch2 : List Nat}
theorem vg_name (i : Nat) {x : Str} (hN : X.N.Nodup) (hi : X.N[i]? = some x := by rfl) (hx : Loc X.env.scope x := by first | exact Or.inl rfl | exact Or.inr rfl)
    (hf : X.fn x = true ∨ X.env.scope.names.lookup x = some .local := by first | exact .inl rfl | exact .inr rfl | assumption) : VG X os (.Name x p) (gName i) [i] (os.set i false) :=
  ⟨_, pg_name hN hi hx hf, fun S σ H ρ v d ρ' Q rel hv hb hq => by
    cases hb
    exact hq _ (rel.set hv i) ⟨List.length_set, fun j hj => List.getElem?_set_ne fun z => hj (by simp [z])⟩ fun a q => own_set q⟩
theorem vgs_nil : VGs X os [] gNil [] os := ⟨_, pgs_nil, fun S σ H ρ vs ds ρ' Q rel hv hb hq => by
  cases hv with
  | nil => cases hb; exact ⟨rfl, hq σ rel ⟨rfl, fun _ _ => rfl⟩ fun _ q => q⟩
  | cons _ _ => cases hb⟩
theorem vgs_cons {tg : Expr} {tgs : List Expr} {b : D → Rho → Option Rho} {c : List D → Rho → Option Rho} (h1 : VG X os tg b ch os1) (h2 : VGs X os1 tgs c ch2 os2)
    (hs : (assignEach (tg :: tgs) X.env).map (·.2) = assign tg X.env :: (assignEach tgs X.env).map (·.2) := by rfl) : VGs X os (tg :: tgs) (gCons b c) (ch ++ ch2) os2 := by
  obtain ⟨t, pt, kt⟩ := h1
  obtain ⟨u, pu, ku⟩ := h2
  refine ⟨_, pgs_cons pt pu hs, fun S σ H ρ vs ds ρ' Q rel hv hb hq => ?_⟩
  cases hv with
  | nil => cases hb
  | @cons v vs d ds h r =>
    have hb : (b d ρ).bind (fun ρ1 => c ds ρ1) = some ρ' := hb
    cases e1 : b d ρ with
    | none => rw [e1] at hb; cases hb
    | some ρ1 =>
      rw [e1] at hb
      refine ⟨v, vs, rfl, kt S σ H ρ v d ρ1 _ rel h e1 fun σ1 rel1 f1 o1 => ?_⟩
      exact ku S σ1 H ρ1 vs ds ρ' _ rel1 r hb fun σ2 rel2 f2 o2 => hq σ2 rel2 ⟨f2.1.trans f1.1, fun i hi => (f2.2 i fun z => hi (List.mem_append_right _ z)).trans (f1.2 i fun z => hi (List.mem_append_left _ z))⟩ fun a q => o1 a (o2 a q)
theorem vg_tup {es : List Expr} {k : Nat} {c : List D → Rho → Option Rho} (h : VGs X os es c ch os1) (hc : X.calm = true := by rfl) (hn : (assignEach es X.env).length = es.length := by rfl) (hst : (assignEach es X.env).findIdx? (·.1) = none := by rfl) :
    VG X os (.Tuple es k p) (gTup es.length c) ch os1 := by
  obtain ⟨t, pt, kt⟩ := h
  refine ⟨_, pg_or (pg_tup hc pt hn hst) (pg_unl hc pt hn hst), fun S σ H ρ v d ρ' Q rel hv hb hq => ?_⟩
  cases hv with
  | @lst a vs ds hs z r =>
    have hb : (if ds.length = es.length then c ds ρ else none) = some ρ' := hb
    split at hb
    · rename_i hl
      exact .inr ⟨a, vs, rfl, .of (rel.sub _ _ hs), by rw [r.length, hl], kt S σ H ρ vs ds ρ' Q rel r hb hq⟩
    · cases hb
  | @tup a vs ds hs z r =>
    have hb : (if ds.length = es.length then c ds ρ else none) = some ρ' := hb
    split at hb
    · rename_i hl
      exact .inl ⟨a, vs, rfl, sqT_mono rel.sub hs, by rw [r.length, hl], kt S σ H ρ vs ds ρ' Q rel r hb hq⟩
    · cases hb
  | _ => cases hb
def sBind (b : D → Rho → Option Rho) (f : Rho → Out (D × Rho)) : Rho → Out Fl := fun ρ => (f ρ).bind fun p => match b p.1 p.2 with
  | some ρ' => .ok (.nx ρ')
  | none => .stuck
/-- a, b = e -/
theorem vs_bind {tg : Expr} {b : D → Rho → Option Rho} (he : VE X W os e f os1 false) (hg : VG X os1 tg b ch os2) (hfx : ch.all (fun i => !L.fx.getD i false) = true := by rfl) (hs : swapsWithSole [tg] e pos.line X.env = pure false := by rfl) (hw : swappedStores [tg] e X.env = pure none := by rfl)
    (h1 : (assignEach [tg] X.env).map (·.2) = [assign tg X.env] := by rfl) : VS X W L os (.Assign [tg] e pos) (sBind b f) os2 := by
  obtain ⟨t, pt, kt⟩ := he
  obtain ⟨u, pu, ku⟩ := hg
  refine ⟨_, ps_asg pt pu hs hw h1, fun S σ H ρ Ds rel P => ?_⟩
  refine kt S σ H ρ _ rel (PostS.seqE P fun d ρ1 v S1 H1 s1 r1 q1 P1 => ?_)
  dsimp only at P1
  cases e1 : b d ρ1 with
  | none => rw [e1] at P1; exact P1.elim
  | some ρ' =>
    rw [e1] at P1
    exact ku S1 σ H1 ρ1 v d ρ' _ r1 q1 e1 fun σ' rel' f' o' => P1 σ' S1 H1 ⟨Ext.refl rel'.sub, fun a q => .inl (o' a q)⟩ (f'.fix hfx) rel'
def sPar (i j : Nat) (g : Rho → Out (List D × Rho)) : Rho → Out Fl := fun ρ => (g ρ).bind fun p => match p.1 with
  | [a, b] => .ok (.nx ((p.2.set i (some a)).set j (some b)))
  | _ => .stuck
/-- a, b = c, d (two plain local names) -/
theorem vs_par (i j : Nat) {x y : Str} {a b : Expr} {px py pt pt2 : Pos} {kt k2} {g : Rho → Out (List D × Rho)} (ha : VA X W os [a, b] g os1) (hN : X.N.Nodup) (hc : X.calm = true := by rfl) (hi : X.N[i]? = some x := by rfl) (hj : X.N[j]? = some y := by rfl) (hij : i ≠ j := by decide)
    (hx : X.env.scope.names.lookup x = some .local := by rfl) (hy : X.env.scope.names.lookup y = some .local := by rfl) (hfi : L.fx.getD i false = false := by rfl) (hfj : L.fx.getD j false = false := by rfl)
    (hw : swappedStores [.Tuple [.Name x px, .Name y py] kt pt] (.Tuple [a, b] k2 pt2) X.env = pure (some [x, y]) := by rfl)
    (hs : swapsWithSole [.Tuple [.Name x px, .Name y py] kt pt] (.Tuple [a, b] k2 pt2) pos.line X.env = pure false := by rfl) :
    VS X W L os (.Assign [.Tuple [.Name x px, .Name y py] kt pt] (.Tuple [a, b] k2 pt2) pos) (sPar i j g) ((os1.set i false).set j false) := by
  obtain ⟨t, pa, ka⟩ := ha
  refine ⟨_, ps_par hc hN hi hj hij hx hy pa hw hs, fun S σ H ρ Ds rel P => ?_⟩
  refine ka S σ H ρ _ rel (PostS.seqE P fun ds ρ1 vs S1 H1 s1 r1 q1 P1 => ?_)
  obtain ⟨q1, l1⟩ := q1
  match ds, vs, q1, P1 with
  | [d1, d2], [v1, v2], .cons h1 (.cons h2 .nil), P1 =>
    refine ⟨v1, v2, rfl, P1 _ S1 H1 ⟨Ext.refl r1.sub, fun a q => .inl (own_set (own_set q))⟩ ((fix_set hfi).trans (fix_set hfj)) ((r1.set h1 i).set h2 j)⟩
end

/-! ### a def by its body -/
def m0 (ρ : Rho) (pm : Option Nat) : D := match pm with
  | none => .non
  | some k => (ρ.getD k none).getD .non
/-- n names; pm: the turned parameter -/
def runF (n : Nat) (pm : Option Nat) (g : Rho → Out Fl) : List D → Out (D × D) := fun ds => match g (ds.map some ++ List.replicate (n - ds.length) none) with
  | .ok (.nx ρ) => .ok (.non, m0 ρ pm)
  | .ok (.rt d ρ) => .ok (d, m0 ρ pm)
  | .exc c fs => .exc c fs
  | _ => .stuck
theorem rel_start {K : PySem.W.Frag} {S H : Hp} {pm : Option Nat} {vs : List V} {ds : List D} {N : List Str} {os : Os} (r : Rel K S H (osP pm) (vs.map some) (ds.map some)) (ho : ∀ i, os.getD i false = (osP pm).getD i false) : Rel K S H os (start N vs) (ds.map some ++ List.replicate (N.length - ds.length) none) := by
  have hl : vs.length = ds.length := by simpa using r.len
  have cut : ∀ {α : Type} {l : List (Option α)} {m i : Nat} {x : Option α}, (l ++ List.replicate m none)[i]? = some x → (l[i]? = some x) ∨ (l.length ≤ i ∧ x = none) := fun {α l m i x} h => by
    by_cases hi : i < l.length
    · rw [List.getElem?_append_left hi] at h; exact .inl h
    · rw [List.getElem?_append_right (by omega), List.getElem?_replicate] at h
      split at h
      · cases h; exact .inr ⟨by omega, rfl⟩
      · cases h
  refine ⟨r.sub, ?_, fun i x y e1 e2 => ?_, fun i j a h1 h2 e1 e2 => ?_⟩
  · unfold L2.start; rw [List.length_append, List.length_append, List.length_map, List.length_map, List.length_replicate, List.length_replicate, hl]
  · unfold L2.start at e1
    rw [ho]
    rcases cut e1 with q1 | ⟨q1, rfl⟩
    · rcases cut e2 with q2 | ⟨q2, rfl⟩
      · exact r.slot i x y q1 q2
      · have := (List.getElem?_eq_some_iff.mp q1).1
        rw [List.length_map] at this q2
        omega
    · rcases cut e2 with q2 | ⟨q2, rfl⟩
      · have := (List.getElem?_eq_some_iff.mp q2).1
        rw [List.length_map] at this q1
        omega
      · cases (osP pm).getD i false <;> trivial
  · unfold L2.start at e1 e2
    rw [ho] at h1 h2
    rcases cut e1 with q1 | ⟨_, q1⟩
    · rcases cut e2 with q2 | ⟨_, q2⟩
      · exact r.sep i j a h1 h2 q1 q2
      · cases q2
    · cases q1
theorem own_start {pm : Option Nat} {vs : List V} {N : List Str} {os : Os} {a : Addr} (ho : ∀ i, os.getD i false = (osP pm).getD i false) (h : Own os (start N vs) a) : Own (osP pm) (vs.map some) a := by
  obtain ⟨i, h1, h2⟩ := h
  rw [ho] at h1
  refine ⟨i, h1, ?_⟩
  unfold L2.start at h2
  by_cases hi : i < (vs.map some).length
  · rw [List.getElem?_append_left hi] at h2; exact h2
  · rw [List.getElem?_append_right (by omega), List.getElem?_replicate] at h2
    split at h2 <;> cases h2
section
variable {P : Program} {w : World} {K : PySem.W.Frag} {mg : Str → Option Value} {base : Heap}
/-- THE RULE: a def's promise by its body's judgement -/
theorem fn_by {x qual : Str} {st : Stmt} {f : Addr} {fd : FuncData} {N ps : List Str} {k n : Nat} {pm : Option Nat} {r : Bool} {g : Rho → Out Fl} {os osN : Os} (F : Fun K x qual st f fd) (Sc : FnScope N ps (defScope st)) (hn : n = ps.length) (hr0 : r = true → osN = osN)
    (ho : ∀ i, os.getD i false = (osP pm).getD i false) (hNl : Le (osP pm) osN) (hnr : r = false ∨ ∀ ρ ρ', g ρ ≠ .ok (.nx ρ'))
    (body : ∀ (cdv : Value) (A : Around) (outer : List Env) (s : Shared) (H : Hp) (E : XK), Room k (A.deeper (envOfC qual (defScope st) s.heap.objs.size f cdv)) →
      ∀ (X : Cx), X = cxOf (L2.CX P w) P w K mg base N qual (defScope st) f cdv A outer s H E → Takes X (fun cls d _ H' => E cls d H') → PassesOwn (model X.prog X.w) X.A X.env X.xe →
      VSs X (fun cls d _ H' => E cls d H') ⟨osP pm, [], [], r⟩ os (defBody st) g osN) :
    FnOk P w K mg base (L2.CX P w) (k + 1) f fd ps (spec K mg n pm r (runF N.length pm g)) := by
  refine F.okX Sc (fun vs H Q E h => by rw [h.1, hn]) (fun cdv A outer s H vs Q E hr h => ?_)
  obtain ⟨hl, S, ds, rel, h⟩ := h
  obtain ⟨t, pt, kt⟩ := body cdv A outer s H E hr _ rfl (takes_of rfl rfl rfl rfl) (passes_of rfl)
  refine ⟨t, pt, kt S _ H _ _ (rel_start (N := N) rel ho) ?_⟩
  have hvl : vs.length = ds.length := by simpa using rel.len
  unfold runF at h
  cases e : g (ds.map some ++ List.replicate (N.length - ds.length) none) with
  | exc c fs =>
    rw [e] at h
    exact fun σ' S' H' cls dd x q => h S' H' cls dd (x.weak fun a q => own_start ho q) q
  | stuck => rw [e] at h; exact h.elim
  | ok z =>
    rw [e] at h
    -- what the turned parameter holds at the end
    have hm : ∀ (ρ : Rho) (σ : Sg) (S' H' : Hp), (∀ i u, (osP pm).getD i false = true → σ[i]? = some (some u) → ∃ d', ρ[i]? = some (some d') ∧ OwnAt K S' H' u d') → FixOn (osP pm) (start N vs) σ → ∀ k u, pm = some k → vs[k]? = some u → OwnAt K S' H' u (m0 ρ pm) := fun ρ σ S' H' hk hf k u ek ev => by
      subst ek
      have hs : (start N vs)[k]? = some (some u) := by
        unfold L2.start
        rw [List.getElem?_append_left (by rw [List.length_map]; exact (List.getElem?_eq_some_iff.mp ev).1), List.getElem?_map, ev]
        rfl
      obtain ⟨d', e1, q⟩ := hk k u (osP_get.mpr rfl) (by rw [hf.2 k (osP_get.mpr rfl)]; exact hs)
      have e2 : m0 ρ (some k) = d' := by
        show (ρ.getD k none).getD .non = d'
        rw [List.getD, e1]; rfl
      rw [e2]; exact q
    cases z with
    | bk ρ => exact h.elim
    | ct ρ => exact h.elim
    | nx ρ =>
      rcases hnr with hnr | hnr
      · subst hnr
        exact fun σ' S' H' s' f' r' => h .non S' H' (s'.ext.weak fun a q => own_start ho q) .non (hm ρ σ' S' H' (fix_end (X := cxOf (L2.CX P w) P w K mg base N qual (defScope st) f cdv A outer s H E) r' hNl) f')
      · exact (hnr _ _ e).elim
    | rt d ρ =>
      refine fun v S' H' x hv hk => h v S' H' (x.weak fun a q => own_start ho q) ?_ (hm ρ _ S' H' hk FixOn.refl)
      unfold RetAt at hv
      unfold RV
      cases r with
      | false => exact hv
      | true =>
        refine ⟨hv.1, fun a ea => ?_⟩
        rcases hv.2.1 a ea with q | ⟨i, h1, h2⟩
        · exact q
        · exact (hv.2.2 i (by rw [ho] at h1; exact h1) (by rw [h2, ea])).elim
end
end SW

set_option maxRecDepth 100000
/-! SW5: what loops walk (VI), for, while, list comprehensions. -/
namespace SW
open PySem PySem.Spec PyProof.Rows L2

/-- the walk J yields these data, one a turn, whatever is laid beside -/
def ItAt (K : PySem.W.Frag) (S0 : Hp) (J : It) (items : List D) : Prop := items.length ≤ sizeLine ∧ ∀ i S H, Same S0 S → Same S H →
  (items.length ≤ i → J.stop i H) ∧ ∀ d, items[i]? = some d → J.go i H ∧ ∀ x H', J.yld i H x H' → ∃ S', Ext (fun _ => False) S H S' H' ∧ At K S' x d
def RI (K : PySem.W.Frag) : RR (List D) It := fun _ S' _ J items => ItAt K S' J items
theorem RI.ok {K : PySem.W.Frag} : (RI K).Ok := fun _ _ _ _ _ _ _ q => q
def VI (X : Cx) (W : WX) (os : Os) (tg iter : Expr) (f : Rho → Out (List D × Rho)) (os' : Os) : Prop :=
  ∃ wi, PI X tg iter wi ∧ ∀ S σ H ρ R, Rel X.K S H os σ ρ → Post X W S H os σ os' (RI X.K) R (f ρ) → wi σ H R

theorem pi_or {X : Cx} {tg iter : Expr} {w1 w2 : TI} (h1 : PI X tg iter w1) (h2 : PI X tg iter w2) : PI X tg iter (fun σ H R => w1 σ H R ∨ w2 σ H R) :=
  ⟨fun pins s σ H R I h => h.elim (h1.run pins s σ H R I) (h2.run pins s σ H R I)⟩

def itemsOf : D → Option (List D)
  | .lst ds => some ds
  | .tup ds => some ds
  | .scr ns => some (ns.map .int)
  | _ => none
def iSeq (f : Rho → Out (D × Rho)) : Rho → Out (List D × Rho) := fun ρ => (f ρ).bind fun p => (Out.of (itemsOf p.1)).bind fun c => .ok (c, p.2)

section
variable {K : PySem.W.Frag} {S S1 H : Hp}
theorem itAt_list {a : Addr} {vs : List V} {ds : List D} (h : SqL K S a vs) (z : ds.length ≤ sizeLine) (r : AtL K S vs ds) : ItAt K S (Itl K a) ds := ⟨z, fun i S' H' s1 s2 => by
  have hs : SqL K H' a vs := s2.seq (s1.seq h)
  refine ⟨fun hi => ⟨vs, hs, by rw [r.length]; exact hi⟩, fun d hd => ?_⟩
  obtain ⟨v, ev, hat⟩ := r.get hd
  refine ⟨⟨vs, v, hs, ev⟩, fun x H2 y => ?_⟩
  obtain ⟨rfl, fv⟩ := y
  have e := (fv vs hs).symm.trans ev
  cases e
  exact ⟨S', Ext.refl s2, hat.mono s1⟩⟩
theorem itAt_tup {a : Addr} {vs : List V} {ds : List D} (h : SqT K S a vs) (z : ds.length ≤ sizeLine) (r : AtL K S vs ds) : ItAt K S (Itt K a) ds := ⟨z, fun i S' H' s1 s2 => by
  have hs : SqT K H' a vs := sqT_mono s2 (sqT_mono s1 h)
  refine ⟨fun hi => ⟨vs, hs, by rw [r.length]; exact hi⟩, fun d hd => ?_⟩
  obtain ⟨v, ev, hat⟩ := r.get hd
  refine ⟨⟨vs, v, hs, ev⟩, fun x H2 y => ?_⟩
  obtain ⟨rfl, fv⟩ := y
  have e := (fv vs hs).symm.trans ev
  cases e
  exact ⟨S', Ext.refl s2, hat.mono s1⟩⟩
end
section
variable {X : Cx} {W : WX} {L : Lc} {os os1 os2 os3 osN : Os} {e e1 e2 : Expr} {f f1 f2 : Rho → Out (D × Rho)} {pos p : Pos} {st : Stmt} {sts rest : List Stmt} {tg iter : Expr}

/-- over a list or a tuple that stands -/
theorem vi_seq (he : VE X W os e f os1 false) : VI X W os tg e (iSeq f) os1 := by
  obtain ⟨t, pt, kt⟩ := he
  refine ⟨_, pi_or (pi_list pt) (pi_tup pt), fun S σ H ρ R rel P => ?_⟩
  cases hf : f ρ with
  | stuck => unfold iSeq at P; rw [hf] at P; exact P.elim
  | exc c fs =>
    refine .inl (kt S σ H ρ _ rel ?_)
    unfold iSeq at P
    rw [hf] at P ⊢
    exact P
  | ok z =>
    obtain ⟨d, ρ1⟩ := z
    unfold iSeq at P
    rw [hf] at P
    have P : Post X W S H os σ os1 (RI X.K) R ((Out.of (itemsOf d)).bind fun c => Out.ok (c, ρ1)) := P
    cases d with
    | lst ds =>
      refine .inl (kt S σ H ρ _ rel ?_)
      rw [hf]
      intro v S1 H1 st1 rel1 q1
      cases (show At X.K S1 v (.lst ds) from q1) with
      | lst hs z r => exact ⟨_, rfl, ⟨_, .of (rel1.sub _ _ hs)⟩, P _ S1 H1 st1 rel1 (itAt_list (.of hs) z r)⟩
    | scr ns =>
      refine .inl (kt S σ H ρ _ rel ?_)
      rw [hf]
      intro v S1 H1 st1 rel1 q1
      cases (show At X.K S1 v (.scr ns) from q1) with
      | scr hs z => exact ⟨_, rfl, ⟨_, rel1.sub.seq hs⟩, P _ S1 H1 st1 rel1 (itAt_list hs (by rw [List.length_map]; exact z) (AtL.ints ns))⟩
    | tup ds =>
      refine .inr (kt S σ H ρ _ rel ?_)
      rw [hf]
      intro v S1 H1 st1 rel1 q1
      cases (show At X.K S1 v (.tup ds) from q1) with
      | tup hs z r => exact ⟨_, rfl, ⟨_, sqT_mono rel1.sub hs⟩, P _ S1 H1 st1 rel1 (itAt_tup hs z r)⟩
    | _ => exact P.elim

/-! ### ranges -/
def lim62 (i : Int) : Bool := decide (i.natAbs < 4611686018427387904)
def rngI (lo : Int) (n : Nat) : List D := (List.range n).map fun i => .int (lo + (i : Nat))
def rangeD : List D → Option (List D)
  | [.int j] => if j.toNat ≤ 16777216 ∧ j.natAbs ≤ 4611686018427387904 then some (rngI 0 j.toNat) else none
  | [.int i, .int j] => if (j - i).toNat ≤ 16777216 ∧ lim62 i = true ∧ lim62 j = true then some (rngI i (j - i).toNat) else none
  | [.int i, .int j, .int c] => if c = -1 ∧ (i - j).toNat ≤ 16777216 ∧ lim62 i = true ∧ lim62 j = true then some ((List.range (i - j).toNat).map fun k => .int (i + (k : Nat) * (-1))) else none
  | _ => none
def iRange (g : Rho → Out (List D × Rho)) : Rho → Out (List D × Rho) := fun ρ => (g ρ).bind fun p => (Out.of (rangeD p.1)).bind fun c => .ok (c, p.2)
theorem sizeLine_is : sizeLine = 16777216 := by decide
theorem itAt_rng {K : PySem.W.Frag} {S : Hp} {lo : Int} {n : Nat} (hn : n ≤ sizeLine) : ItAt K S (Itr lo n) (rngI lo n) := by
  have hl : (rngI lo n).length = n := by unfold rngI; rw [List.length_map, List.length_range]
  refine ⟨by rw [hl]; exact hn, fun i S' H' s1 s2 => ⟨fun hi => by rw [hl] at hi; exact hi, fun d hd => ?_⟩⟩
  have hi : i < n := by rw [← hl]; exact (List.getElem?_eq_some_iff.mp hd).1
  refine ⟨hi, fun x H2 y => ?_⟩
  obtain ⟨rfl, rfl⟩ := y
  unfold rngI at hd
  rw [List.getElem?_map, List.getElem?_range hi] at hd
  cases hd
  exact ⟨S', Ext.refl s2, .int _⟩
theorem itAt_rngc {K : PySem.W.Frag} {S : Hp} {lo : Int} {n : Nat} (hn : n ≤ sizeLine) : ItAt K S (Itc lo (-1) n) ((List.range n).map fun k => .int (lo + (k : Nat) * (-1))) := by
  have hl : ((List.range n).map fun k => D.int (lo + (k : Nat) * (-1))).length = n := by rw [List.length_map, List.length_range]
  refine ⟨by rw [hl]; exact hn, fun i S' H' s1 s2 => ⟨fun hi => by rw [hl] at hi; exact hi, fun d hd => ?_⟩⟩
  have hi : i < n := by rw [← hl]; exact (List.getElem?_eq_some_iff.mp hd).1
  refine ⟨hi, fun x H2 y => ?_⟩
  obtain ⟨rfl, rfl⟩ := y
  rw [List.getElem?_map, List.getElem?_range hi] at hd
  cases hd
  exact ⟨S', Ext.refl s2, .int _⟩
theorem lim62_iff {i : Int} (h : lim62 i = true) : -(2 ^ 62) ≤ i ∧ i < 2 ^ 62 := by
  unfold lim62 at h
  have h1 := of_decide_eq_true h
  exact ⟨by omega, by omega⟩
theorem vi_range1 {a : Expr} {g : Rho → Out (List D × Rho)} (ha : VA X W os [a] g os1) (hm : X.mg "range" = none) (hg : Gl X "range" := by rfl) (hs : starEach [a] X.env = [(false, eval a X.env)] := by rfl) : VI X W os tg (.Call (.Name "range" p) [a] [] pos) (iRange g) os1 := by
  obtain ⟨t, pt, kt⟩ := ha
  refine ⟨_, pi_range1 hg hm pt hs, fun S σ H ρ R rel P => ?_⟩
  refine kt S σ H ρ _ rel (Post.seq P (fun z => z) (fun c fs p => p) fun ds ρ1 vs S1 H1 st1 rel1 q1 P1 => ?_)
  obtain ⟨q1, l1⟩ := q1
  match ds, vs, q1, P1 with
  | [d1], [v1], .cons h1 .nil, P1 =>
    have P1 : Post X W S H os σ os1 (RI X.K) R ((Out.of (rangeD [d1])).bind fun c => Out.ok (c, ρ1)) := P1
    cases h1 with
    | int j =>
      have P1 : Post X W S H os σ os1 (RI X.K) R ((Out.of (if j.toNat ≤ 16777216 ∧ j.natAbs ≤ 4611686018427387904 then some (rngI 0 j.toNat) else none)).bind fun c => Out.ok (c, ρ1)) := P1
      split at P1
      · rename_i hj
        refine ⟨j, rfl, by omega, by omega, (P1.step RI.ok st1).fin (os' := os1) rel1 (itAt_rng ?_)⟩
        rw [sizeLine_is]
        omega
      · exact P1.elim
    | _ => exact P1.elim
theorem vi_range2 {a b : Expr} {g : Rho → Out (List D × Rho)} (ha : VA X W os [a, b] g os1) (hm : X.mg "range" = none) (hg : Gl X "range" := by rfl) (hs : starEach [a, b] X.env = [(false, eval a X.env), (false, eval b X.env)] := by rfl) (hs2 : starEach [b] X.env = [(false, eval b X.env)] := by rfl) :
    VI X W os tg (.Call (.Name "range" p) [a, b] [] pos) (iRange g) os1 := by
  obtain ⟨t, pt, kt⟩ := ha
  refine ⟨_, pi_range2 hg hm pt hs hs2, fun S σ H ρ R rel P => ?_⟩
  refine kt S σ H ρ _ rel (Post.seq P (fun z => z) (fun c fs p => p) fun ds ρ1 vs S1 H1 st1 rel1 q1 P1 => ?_)
  obtain ⟨q1, l1⟩ := q1
  match ds, vs, q1, P1 with
  | [d1, d2], [v1, v2], .cons h1 (.cons h2 .nil), P1 =>
    have P1 : Post X W S H os σ os1 (RI X.K) R ((Out.of (rangeD [d1, d2])).bind fun c => Out.ok (c, ρ1)) := P1
    cases h1 with
    | int i =>
      cases h2 with
      | int j =>
        have P1 : Post X W S H os σ os1 (RI X.K) R ((Out.of (if (j - i).toNat ≤ 16777216 ∧ lim62 i = true ∧ lim62 j = true then some (rngI i (j - i).toNat) else none)).bind fun c => Out.ok (c, ρ1)) := P1
        split at P1
        · rename_i hj
          have hi := lim62_iff hj.2.1
          have hj2 := lim62_iff hj.2.2
          refine ⟨i, j, rfl, ⟨hi.1, hi.2, hj2.1, hj2.2⟩, (P1.step RI.ok st1).fin (os' := os1) rel1 (itAt_rng ?_)⟩
          rw [sizeLine_is]
          omega
        · exact P1.elim
      | _ => exact P1.elim
    | _ => exact P1.elim
theorem vi_range3 {a b c : Expr} {g : Rho → Out (List D × Rho)} (ha : VA X W os [a, b, c] g os1) (hm : X.mg "range" = none) (hg : Gl X "range" := by rfl) (hs : starEach [a, b, c] X.env = (false, eval a X.env) :: starEach [b, c] X.env := by rfl) (hpl : (backTo pos (starEach [b, c] X.env)).any (·.1) = false := by rfl) :
    VI X W os tg (.Call (.Name "range" p) [a, b, c] [] pos) (iRange g) os1 := by
  obtain ⟨t, pt, kt⟩ := ha
  refine ⟨_, pi_range3 hg hm pt hs hpl, fun S σ H ρ R rel P => ?_⟩
  refine kt S σ H ρ _ rel (Post.seq P (fun z => z) (fun c fs p => p) fun ds ρ1 vs S1 H1 st1 rel1 q1 P1 => ?_)
  obtain ⟨q1, l1⟩ := q1
  match ds, vs, q1, P1 with
  | [d1, d2, d3], [v1, v2, v3], .cons h1 (.cons h2 (.cons h3 .nil)), P1 =>
    have P1 : Post X W S H os σ os1 (RI X.K) R ((Out.of (rangeD [d1, d2, d3])).bind fun c => Out.ok (c, ρ1)) := P1
    cases h1 with
    | int i =>
      cases h2 with
      | int j =>
        cases h3 with
        | int k =>
          replace P1 : Post X W S H os σ os1 (RI X.K) R ((Out.of (if k = -1 ∧ (i - j).toNat ≤ 16777216 ∧ lim62 i = true ∧ lim62 j = true then some ((List.range (i - j).toNat).map fun k => D.int (i + (k : Nat) * (-1))) else none)).bind fun c => Out.ok (c, ρ1)) := P1
          split at P1
          · rename_i hj
            have P2 : Post X W S1 H1 os1 σ os1 (RI X.K) R (Out.ok (((List.range (i - j).toNat).map fun k => D.int (i + (k : Nat) * (-1))), ρ1)) := Post.step RI.ok P1 st1
            obtain ⟨hk, hz, hi, hj⟩ := hj
            have hi := lim62_iff hi
            have hj := lim62_iff hj
            exact ⟨i, j, k, (i - j).toNat, rfl, by rw [hk]; exact RgC.neg hi.1 hi.2 hj.1 hj.2, P2 _ _ _ (Stp.refl rel1.sub) rel1 (by rw [hk]; exact itAt_rngc (by rw [sizeLine_is]; omega))⟩
          · exact P1.elim
        | _ => exact P1.elim
      | _ => exact P1.elim
    | _ => exact P1.elim

/-! ### enumerate, zip of lists -/
def enumD (ds : List D) : List D := (List.range ds.length).zipWith (fun i d => .tup [.int (i : Nat), d]) ds
def zipD (ds es : List D) : List D := ds.zipWith (fun d e => .tup [d, e]) es
def iEnum1 : List D → Option (List D)
  | [.lst ds] => some (enumD ds)
  | _ => none
def iZip2 : List D → Option (List D)
  | [.lst ds, .lst es] => some (zipD ds es)
  | _ => none
def iArg (h : List D → Option (List D)) (g : Rho → Out (List D × Rho)) : Rho → Out (List D × Rho) := fun ρ => (g ρ).bind fun p => (Out.of (h p.1)).bind fun c => .ok (c, p.2)
theorem two_ok : 2 ≤ sizeLine := by decide
theorem vi_enum {elts : List Expr} {kk : Nat} {tpos : Pos} {g : Rho → Out (List D × Rho)} (ha : VA X W os [e] g os1) (hm : X.mg "enumerate" = none) (hg : Gl X "enumerate" := by rfl) (hs : starEach [e] X.env = [(false, eval e X.env)] := by rfl) :
    VI X W os (.Tuple elts kk tpos) (.Call (.Name "enumerate" p) [e] [] pos) (iArg iEnum1 g) os1 := by
  obtain ⟨t, pt, kt⟩ := ha
  refine ⟨_, pi_enum hg hm pt hs, fun S σ H ρ R rel P => ?_⟩
  refine kt S σ H ρ _ rel (Post.seq P (fun z => z) (fun c fs p => p) fun ds ρ1 vs S1 H1 st1 rel1 q1 P1 => ?_)
  obtain ⟨q1, l1⟩ := q1
  match ds, vs, q1, P1 with
  | [d1], [v1], .cons h1 .nil, P1 =>
    have P1 : Post X W S H os σ os1 (RI X.K) R ((Out.of (iEnum1 [d1])).bind fun c => Out.ok (c, ρ1)) := P1
    cases h1 with
    | @lst a vs ds hs z r =>
      have hl : (enumD ds).length = ds.length := by unfold enumD; rw [List.length_zipWith, List.length_range, Nat.min_self]
      refine ⟨a, vs, rfl, .of (rel1.sub _ _ hs), (P1.step RI.ok st1).fin (os' := os1) rel1 ⟨by rw [hl]; exact z, fun i S' H' s1 s2 => ?_⟩⟩
      have hs' : SqL X.K H' a vs := .of (s2 _ _ (s1 _ _ hs))
      refine ⟨fun hi => ⟨vs, hs', by rw [r.length, ← hl]; exact hi⟩, fun d hd => ?_⟩
      have hi : i < ds.length := by rw [← hl]; exact (List.getElem?_eq_some_iff.mp hd).1
      obtain ⟨v, ev, hat⟩ := r.get (List.getElem?_eq_getElem hi)
      refine ⟨⟨vs, v, hs', ev⟩, fun x H2 y => ?_⟩
      obtain ⟨T, x', rfl, nT, rfl, fx⟩ := y
      have e := (fx vs hs').symm.trans ev
      cases e
      have xx := Ext.new (O := fun _ => False) (o := .tup [.int (i : Nat), v]) s2 nT
      refine ⟨_, xx, ?_⟩
      have ed : d = .tup [.int (i : Nat), ds[i]] := by
        unfold enumD at hd
        rw [List.getElem?_zipWith, List.getElem?_range hi, List.getElem?_eq_getElem hi] at hd
        exact (Option.some.inj hd).symm
      rw [ed]
      exact .tup (.inl (.inl upd_same)) two_ok (.cons (.int _) (.cons ((hat.mono s1).mono xx.s) .nil))
    | _ => exact P1.elim
theorem vi_zip {elts : List Expr} {kk : Nat} {tpos : Pos} {g : Rho → Out (List D × Rho)} (ha : VA X W os [e, e2] g os1) (hm : X.mg "zip" = none) (hg : Gl X "zip" := by rfl)
    (hs : starEach [e, e2] X.env = (false, eval e X.env) :: starEach [e2] X.env := by rfl) (hpl : (backTo pos (starEach [e2] X.env)).any (·.1) = false := by rfl) :
    VI X W os (.Tuple elts kk tpos) (.Call (.Name "zip" p) [e, e2] [] pos) (iArg iZip2 g) os1 := by
  obtain ⟨t, pt, kt⟩ := ha
  refine ⟨_, pi_zip hg hm pt hs hpl, fun S σ H ρ R rel P => ?_⟩
  refine kt S σ H ρ _ rel (Post.seq P (fun z => z) (fun c fs p => p) fun ds ρ1 vs S1 H1 st1 rel1 q1 P1 => ?_)
  obtain ⟨q1, l1⟩ := q1
  match ds, vs, q1, P1 with
  | [d1, d2], [v1, v2], .cons h1 (.cons h2 .nil), P1 =>
    have P1 : Post X W S H os σ os1 (RI X.K) R ((Out.of (iZip2 [d1, d2])).bind fun c => Out.ok (c, ρ1)) := P1
    cases h1 with
    | @lst a vs ds hs z r =>
      cases h2 with
      | @lst b ws es ht z2 r2 =>
        have hl : (zipD ds es).length = min ds.length es.length := by unfold zipD; rw [List.length_zipWith]
        refine ⟨a, b, vs, ws, rfl, .of (rel1.sub _ _ hs), .of (rel1.sub _ _ ht), (P1.step RI.ok st1).fin (os' := os1) rel1 ⟨by rw [hl]; omega, fun i S' H' s1 s2 => ?_⟩⟩
        have hs' : SqL X.K H' a vs := .of (s2 _ _ (s1 _ _ hs))
        have ht' : SqL X.K H' b ws := .of (s2 _ _ (s1 _ _ ht))
        refine ⟨fun hi => ⟨vs, ws, hs', ht', by rw [r.length, r2.length]; omega⟩, fun d hd => ?_⟩
        have hi : i < min ds.length es.length := by rw [← hl]; exact (List.getElem?_eq_some_iff.mp hd).1
        have hi1 : i < ds.length := by omega
        have hi2 : i < es.length := by omega
        obtain ⟨v, ev, hat⟩ := r.get (List.getElem?_eq_getElem hi1)
        obtain ⟨u, eu, hau⟩ := r2.get (List.getElem?_eq_getElem hi2)
        refine ⟨⟨vs, ws, v, u, hs', ht', ev, eu⟩, fun x H2 y => ?_⟩
        obtain ⟨T, x', y', rfl, nT, rfl, fx, fy⟩ := y
        have e := (fx vs hs').symm.trans ev
        cases e
        have e := (fy ws ht').symm.trans eu
        cases e
        have xx := Ext.new (O := fun _ => False) (o := .tup [v, u]) s2 nT
        refine ⟨_, xx, ?_⟩
        have ed : d = .tup [ds[i], es[i]] := by
          unfold zipD at hd
          rw [List.getElem?_zipWith, List.getElem?_eq_getElem hi1, List.getElem?_eq_getElem hi2] at hd
          exact (Option.some.inj hd).symm
        rw [ed]
        exact .tup (.inl (.inl upd_same)) two_ok (.cons ((hat.mono s1).mono xx.s) (.cons ((hau.mono s1).mono xx.s) .nil))
      | _ => exact P1.elim
    | _ => exact P1.elim

/-! ### for -/
def forL (b : D → Rho → Option Rho) (g : Rho → Out Fl) : List D → Rho → Out Fl
  | [], ρ => .ok (.nx ρ)
  | x :: xs, ρ => match b x ρ with
    | none => .stuck
    | some ρ1 => (g ρ1).bind fun y => match y with
      | .nx ρ2 => forL b g xs ρ2
      | .ct ρ2 => forL b g xs ρ2
      | .bk ρ2 => .ok (.nx ρ2)
      | .rt d ρ2 => .ok (.rt d ρ2)
def sFor (f : Rho → Out (List D × Rho)) (b : D → Rho → Option Rho) (g : Rho → Out Fl) : Rho → Out Fl := fun ρ => (f ρ).bind fun p => forL b g p.1 p.2
theorem vs_for {body : List Stmt} {fi : Rho → Out (List D × Rho)} {b : D → Rho → Option Rho} {g : Rho → Out Fl} {ch : List Nat} (hp : PassesOwn (model X.prog X.w) X.A X.env X.xe) (hi : VI X W os tg iter fi os1) (hg : VG X os1 tg b ch os2)
    (hb : VSs X W ⟨L.fx, os1, os1, L.r⟩ os2 body g os1) (hfx : ch.all (fun i => !L.fx.getD i false) = true := by rfl) (hc : X.calm = true := by rfl) (hs : ∀ x, foldedSetIterable iter X.env x = pure x := by intro _; rfl) :
    VS X W L os (.For tg iter body [] pos) (sFor fi b g) os1 := by
  obtain ⟨wi, pi, ki⟩ := hi
  obtain ⟨tg', pg, kg⟩ := hg
  obtain ⟨tb, pb, kb⟩ := hb
  refine ⟨_, ps_for hp hc pi pg pb hs, fun S σ H ρ Ds rel P => ?_⟩
  refine ki S σ H ρ _ rel (PostS.seqE P fun items ρ1 J S1 H1 st1 rel1 q1 P1 => ?_)
  obtain ⟨hz, q1⟩ := q1
  refine ⟨fun i m σ' H' => i + m = items.length ∧ ∃ S' ρ', Same S1 S' ∧ Rel X.K S' H' os1 σ' ρ' ∧ PostS X W L S' H' os1 σ' os1 Ds (forL b g (items.drop i) ρ'), ⟨items.length, by omega, S1, ρ1, Same.refl _, rel1, P1⟩, ?_⟩
  rintro i m σ' H' ⟨hm, S', ρ', s1, rel', P'⟩
  obtain ⟨hstop, hgo⟩ := q1 i S' H' s1 rel'.sub
  by_cases hlt : i < items.length
  · have ed := List.getElem?_eq_getElem hlt
    obtain ⟨go, hy⟩ := hgo _ ed
    rw [List.drop_eq_getElem_cons hlt] at P'
    unfold forL at P'
    refine .inr ⟨go, fun σ'' H'' => ∃ S'' ρ'', Same S1 S'' ∧ Rel X.K S'' H'' os1 σ'' ρ'' ∧ PostS X W L S'' H'' os1 σ'' os1 Ds (forL b g (items.drop (i + 1)) ρ''), fun σ'' H'' ⟨S'', ρ'', a, b, c⟩ => ⟨m - 1, by omega, by omega, S'', ρ'', a, b, c⟩, fun x H2 y => ?_⟩
    obtain ⟨S2, x2, hat⟩ := hy x H2 y
    have rel2 := rel'.ext0 x2
    cases eb : b items[i] ρ' with
    | none => rw [eb] at P'; exact P'.elim
    | some ρ2 =>
      rw [eb] at P'
      refine kg S2 σ' H2 ρ' x _ ρ2 _ rel2 hat eb fun σ3 rel3 f3 o3 => ?_
      have st3 : Stp os1 σ' S' H' os2 σ3 S2 H2 := ⟨x2.weak fun _ z => z.elim, fun a q => .inl (o3 a q)⟩
      have fx3 := f3.fix hfx
      refine kb S2 σ3 H2 ρ2 _ rel3 ?_
      have P' : PostS X W L S2 H2 os2 σ3 os1 Ds ((g ρ2).bind fun y => match y with
        | .nx ρ2 => forL b g (items.drop (i + 1)) ρ2
        | .ct ρ2 => forL b g (items.drop (i + 1)) ρ2
        | .bk ρ2 => .ok (.nx ρ2)
        | .rt d ρ2 => .ok (.rt d ρ2)) := PostS.step P' st3 fx3
      cases hgr : g ρ2 with
      | stuck => rw [hgr] at P'; exact P'
      | exc c fs => rw [hgr] at P'; exact P'
      | ok z =>
        rw [hgr] at P'
        cases z with
        | nx ρ4 => exact fun σ4 S4 H4 s4 f4 r4 => ⟨S4, ρ4, s1.trans (x2.s.trans s4.ext.s), r4, PostS.step P' s4 f4⟩
        | ct ρ4 => exact fun σ4 S4 H4 s4 f4 r4 => ⟨S4, ρ4, s1.trans (x2.s.trans s4.ext.s), r4, PostS.step P' s4 f4⟩
        | bk ρ4 => exact P'
        | rt d ρ4 => exact P'
  · refine .inl ⟨hstop (by omega), ?_⟩
    rw [List.drop_of_length_le (by omega)] at P'
    exact P'.fin rel'

/-! ### while -/
def whileL (c : Rho → Out (Bool × Rho)) (g : Rho → Out Fl) : Nat → Rho → Out Fl
  | 0, _ => .stuck
  | n + 1, ρ => (c ρ).bind fun p => if p.1 = true then (g p.2).bind fun y => (match y with
      | .nx ρ2 => whileL c g n ρ2
      | .ct ρ2 => whileL c g n ρ2
      | .bk ρ2 => .ok (.nx ρ2)
      | .rt d ρ2 => .ok (.rt d ρ2)) else .ok (.nx p.2)
def sWhile (fuel : Rho → Nat) (c : Rho → Out (Bool × Rho)) (g : Rho → Out Fl) : Rho → Out Fl := fun ρ => whileL c g (fuel ρ) ρ
theorem vs_while {c : Expr} {body : List Stmt} {gc : Rho → Out (Bool × Rho)} {g : Rho → Out Fl} {fuel : Rho → Nat} (hp : PassesOwn (model X.prog X.w) X.A X.env X.xe) (hc : VT X W os c gc os) (hb : VSs X W ⟨L.fx, os, os, L.r⟩ os body g os) :
    VS X W L os (.While c body [] pos) (sWhile fuel gc g) os := by
  obtain ⟨tc, pc, kc⟩ := hc
  obtain ⟨tb, pb, kb⟩ := hb
  refine ⟨_, ps_while hp pc pb, fun S σ H ρ Ds rel P => ?_⟩
  refine ⟨fun m σ' H' => ∃ S' ρ', Rel X.K S' H' os σ' ρ' ∧ PostS X W L S' H' os σ' os Ds (whileL gc g m ρ'), ⟨fuel ρ, S, ρ, rel, P⟩, ?_⟩
  rintro m σ' H' ⟨S', ρ', rel', P'⟩
  cases m with
  | zero => exact P'.elim
  | succ m =>
    unfold whileL at P'
    refine kc S' σ' H' ρ' _ rel' (PostS.seqE P' fun d ρ1 v S1 H1 s1 r1 q1 P1 => ?_)
    cases q1
    cases d with
    | false => exact P1.fin r1
    | true =>
      refine ⟨fun σ'' H'' => ∃ S'' ρ'', Rel X.K S'' H'' os σ'' ρ'' ∧ PostS X W L S'' H'' os σ'' os Ds (whileL gc g m ρ''), fun σ'' H'' h => ⟨m, Nat.lt_succ_self m, h⟩, ?_⟩
      refine kb S1 σ' H1 ρ1 _ r1 ?_
      have P1 : PostS X W L S1 H1 os σ' os Ds ((g ρ1).bind fun y => (match y with
        | .nx ρ2 => whileL gc g m ρ2
        | .ct ρ2 => whileL gc g m ρ2
        | .bk ρ2 => .ok (.nx ρ2)
        | .rt d ρ2 => .ok (.rt d ρ2))) := P1
      cases hgr : g ρ1 with
      | stuck => rw [hgr] at P1; exact P1
      | exc c fs => rw [hgr] at P1; exact P1
      | ok z =>
        rw [hgr] at P1
        cases z with
        | nx ρ4 => exact fun σ4 S4 H4 s4 f4 r4 => ⟨S4, ρ4, r4, PostS.step P1 s4 f4⟩
        | ct ρ4 => exact fun σ4 S4 H4 s4 f4 r4 => ⟨S4, ρ4, r4, PostS.step P1 s4 f4⟩
        | bk ρ4 => exact P1
        | rt d ρ4 => exact P1
end
end SW

set_option maxRecDepth 100000
/-! SW6: list comprehensions of one clause; freezing behind a statement. -/
namespace SW
open PySem PySem.Spec PyProof.Rows L2

def wipeR (ρ : Rho) : List Nat → Rho
  | [] => ρ
  | v :: vs => (wipeR ρ vs).set v none
def backR : List Nat → Rho → Rho → Rho
  | [], _, ρ3 => ρ3
  | v :: vs, ρ, ρ3 => (backR vs ρ ρ3).set v (ρ.getD v none)
theorem wipeR_len (ρ : Rho) : ∀ vs, (wipeR ρ vs).length = ρ.length
  | [] => rfl
  | v :: vs => by unfold wipeR; rw [List.length_set, wipeR_len ρ vs]
theorem backR_len (ρ ρ3 : Rho) : ∀ vs, (backR vs ρ ρ3).length = ρ3.length
  | [] => rfl
  | v :: vs => by unfold backR; rw [List.length_set, backR_len ρ ρ3 vs]
theorem wipe_in {σ : Sg} {i : Nat} : ∀ {vs : List Nat}, i ∈ vs → i < σ.length → (wipe σ vs)[i]? = some none
  | v :: vs, h, hl => by
    unfold wipe
    by_cases e : v = i
    · subst e; rw [List.getElem?_set_self (by rw [wipe_length]; exact hl)]
    · rw [List.getElem?_set_ne e]
      exact wipe_in (by simpa [e, Ne.symm e] using (List.mem_cons.mp h).resolve_left (Ne.symm e)) hl
theorem wipe_out {σ : Sg} {i : Nat} : ∀ {vs : List Nat}, i ∉ vs → (wipe σ vs)[i]? = σ[i]?
  | [], _ => rfl
  | v :: vs, h => by
    unfold wipe
    rw [List.getElem?_set_ne (fun z => h (by simp [z]))]
    exact wipe_out fun z => h (List.mem_cons_of_mem _ z)
theorem wipeR_in {ρ : Rho} {i : Nat} : ∀ {vs : List Nat}, i ∈ vs → i < ρ.length → (wipeR ρ vs)[i]? = some none
  | v :: vs, h, hl => by
    unfold wipeR
    by_cases e : v = i
    · subst e; rw [List.getElem?_set_self (by rw [wipeR_len]; exact hl)]
    · rw [List.getElem?_set_ne e]
      exact wipeR_in ((List.mem_cons.mp h).resolve_left (Ne.symm e)) hl
theorem wipeR_out {ρ : Rho} {i : Nat} : ∀ {vs : List Nat}, i ∉ vs → (wipeR ρ vs)[i]? = ρ[i]?
  | [], _ => rfl
  | v :: vs, h => by
    unfold wipeR
    rw [List.getElem?_set_ne (fun z => h (by simp [z]))]
    exact wipeR_out fun z => h (List.mem_cons_of_mem _ z)
theorem backR_in {ρ ρ3 : Rho} {i : Nat} : ∀ {vs : List Nat}, i ∈ vs → i < ρ3.length → (backR vs ρ ρ3)[i]? = some (ρ.getD i none)
  | v :: vs, h, hl => by
    unfold backR
    by_cases e : v = i
    · subst e; rw [List.getElem?_set_self (by rw [backR_len]; exact hl)]
    · rw [List.getElem?_set_ne e]
      exact backR_in ((List.mem_cons.mp h).resolve_left (Ne.symm e)) hl
theorem backR_out {ρ ρ3 : Rho} {i : Nat} : ∀ {vs : List Nat}, i ∉ vs → (backR vs ρ ρ3)[i]? = ρ3[i]?
  | [], _ => rfl
  | v :: vs, h => by
    unfold backR
    rw [List.getElem?_set_ne (fun z => h (by simp [z]))]
    exact backR_out fun z => h (List.mem_cons_of_mem _ z)
theorem wipe_eq {σ σ2 : Sg} {vs ch : List Nat} (h : ChOn ch (wipe σ vs) σ2) (hc : ∀ i ∈ ch, i ∈ vs) : wipe σ2 vs = wipe σ vs := by
  have hl : σ2.length = σ.length := by rw [h.1, wipe_length]
  refine List.ext_getElem? fun i => ?_
  by_cases hi : i ∈ vs
  · by_cases hlt : i < σ.length
    · rw [wipe_in hi hlt, wipe_in hi (by rw [hl]; exact hlt)]
    · rw [List.getElem?_eq_none (by rw [wipe_length]; omega), List.getElem?_eq_none (by rw [wipe_length]; omega)]
  · rw [wipe_out hi, h.2 i fun z => hi (hc i z)]

section
variable {K : PySem.W.Frag} {S S3 H H3 : Hp} {os : Os} {σ σ2 : Sg} {ρ ρ3 : Rho} {vs : List Nat}
theorem all_false {os : Os} (h : vs.all (fun v => !os.getD v false) = true) {i : Nat} (hi : i ∈ vs) : os.getD i false = false := by
  have q := List.all_eq_true.mp h i hi
  simpa using q
theorem Rel.wipe (r : Rel K S H os σ ρ) (hv : vs.all (fun v => !os.getD v false) = true) : Rel K S H os (L2.wipe σ vs) (wipeR ρ vs) where
  sub := r.sub
  len := by rw [wipe_length, wipeR_len]; exact r.len
  slot := fun i x d e1 e2 => by
    by_cases hi : i ∈ vs
    · have hl : i < σ.length := by
        have := (List.getElem?_eq_some_iff.mp e1).1
        rwa [wipe_length] at this
      rw [wipe_in hi hl] at e1
      rw [wipeR_in hi (by rw [← r.len]; exact hl)] at e2
      cases e1; cases e2
      cases os.getD i false <;> trivial
    · rw [wipe_out hi] at e1
      rw [wipeR_out hi] at e2
      exact r.slot i x d e1 e2
  sep := fun i j a h1 h2 e1 e2 => by
    have hi : i ∉ vs := fun z => by rw [all_false hv z] at h1; cases h1
    have hj : j ∉ vs := fun z => by rw [all_false hv z] at h2; cases h2
    rw [wipe_out hi] at e1
    rw [wipe_out hj] at e2
    exact r.sep i j a h1 h2 e1 e2
theorem own_wipe (hv : vs.all (fun v => !os.getD v false) = true) {a : Addr} : Own os (L2.wipe σ vs) a ↔ Own os σ a := by
  constructor
  · rintro ⟨i, h1, h2⟩
    have hi : i ∉ vs := fun z => by rw [all_false hv z] at h1; cases h1
    rw [wipe_out hi] at h2
    exact ⟨i, h1, h2⟩
  · rintro ⟨i, h1, h2⟩
    have hi : i ∉ vs := fun z => by rw [all_false hv z] at h1; cases h1
    exact ⟨i, h1, by rw [wipe_out hi]; exact h2⟩
theorem Rel.back (r : Rel K S H os σ ρ) (hv : vs.all (fun v => !os.getD v false) = true) (sm : Same S S3) (r3 : Rel K S3 H3 os σ2 ρ3) (hl : σ2.length = σ.length) (ho : ∀ i, i ∉ vs → σ2[i]? = σ[i]?) : Rel K S3 H3 os σ (backR vs ρ ρ3) where
  sub := r3.sub
  len := by rw [backR_len, ← r3.len, hl]
  slot := fun i x d e1 e2 => by
    by_cases hi : i ∈ vs
    · have hlt : i < σ.length := (List.getElem?_eq_some_iff.mp e1).1
      rw [backR_in hi (by rw [← r3.len, hl]; exact hlt)] at e2
      have hr : i < ρ.length := by rw [← r.len]; exact hlt
      have e3 : ρ[i]? = some d := by
        have : ρ.getD i none = d := Option.some.inj e2
        rw [← this, List.getD, List.getElem?_eq_getElem hr]; rfl
      have q := r.slot i x d e1 e3
      rw [all_false hv hi] at q ⊢
      cases x <;> cases d <;> simp only [SlotAt] at q ⊢
      exact q.mono sm
    · rw [backR_out hi] at e2
      exact r3.slot i x d (by rw [ho i hi]; exact e1) e2
  sep := fun i j a h1 h2 e1 e2 => by
    have hi : i ∉ vs := fun z => by rw [all_false hv z] at h1; cases h1
    have hj : j ∉ vs := fun z => by rw [all_false hv z] at h2; cases h2
    exact r3.sep i j a h1 h2 (by rw [ho i hi]; exact e1) (by rw [ho j hj]; exact e2)
theorem own_back (hv : vs.all (fun v => !os.getD v false) = true) (ho : ∀ i, i ∉ vs → σ2[i]? = σ[i]?) {a : Addr} : Own os σ2 a ↔ Own os σ a := by
  constructor
  · rintro ⟨i, h1, h2⟩
    have hi : i ∉ vs := fun z => by rw [all_false hv z] at h1; cases h1
    exact ⟨i, h1, by rw [← ho i hi]; exact h2⟩
  · rintro ⟨i, h1, h2⟩
    have hi : i ∉ vs := fun z => by rw [all_false hv z] at h1; cases h1
    exact ⟨i, h1, by rw [ho i hi]; exact h2⟩
end

/-! ### the block's judgements, for every start -/
abbrev W0 : WX := fun _ _ _ _ => False
def VTs (X : Cx) (W : WX) (os : Os) (es : List Expr) (f : Rho → Out (Bool × Rho)) (os' : Os) : Prop :=
  ∃ t, PTs X es t ∧ ∀ S σ H ρ Q, Rel X.K S H os σ ρ → Post X W S H os σ os' RB Q (f ρ) → t σ H Q
def tYesF : Rho → Out (Bool × Rho) := fun ρ => .ok (true, ρ)
theorem vts_nil {X : Cx} {W : WX} {os : Os} : VTs X W os [] tYesF os := ⟨_, pts_nil, fun S σ H ρ Q rel P => P.fin (os' := os) rel rfl⟩
theorem vts_one {X : Cx} {W : WX} {os os1 : Os} {c : Expr} {f : Rho → Out (Bool × Rho)} (h : VT X W os c f os1) : VTs X W os [c] f os1 := by
  obtain ⟨t, p, k⟩ := h
  exact ⟨t, pts_one p, k⟩

def compL (vs : List Nat) (b : D → Rho → Option Rho) (tt : Rho → Out (Bool × Rho)) (fe : Rho → Out (D × Rho)) : List D → Rho → Out (List D × Rho)
  | [], ρ => .ok ([], ρ)
  | x :: xs, ρ => match b x (wipeR ρ vs) with
    | none => .stuck
    | some ρ1 => match tt ρ1 with
      | .ok (true, ρ2) => match fe ρ2 with
        | .ok (d, ρ3) => (compL vs b tt fe xs (backR vs ρ ρ3)).bind fun p => .ok (d :: p.1, p.2)
        | _ => .stuck
      | .ok (false, ρ2) => compL vs b tt fe xs (backR vs ρ ρ2)
      | _ => .stuck
def eComp (vs : List Nat) (fi : Rho → Out (List D × Rho)) (b : D → Rho → Option Rho) (tt : Rho → Out (Bool × Rho)) (fe : Rho → Out (D × Rho)) : Rho → Out (D × Rho) := fun ρ =>
  (fi ρ).bind fun p => (compL vs b tt fe p.1 p.2).bind fun q => .ok (.lst q.1, q.2)
theorem compL_exc {vs : List Nat} {b : D → Rho → Option Rho} {tt : Rho → Out (Bool × Rho)} {fe : Rho → Out (D × Rho)} : ∀ {xs : List D} {ρ : Rho} {c fs}, compL vs b tt fe xs ρ ≠ .exc c fs
  | [], ρ, c, fs, h => by cases h
  | x :: xs, ρ, c, fs, h => by
    unfold compL at h
    split at h
    · cases h
    · split at h
      · split at h
        · cases e : compL vs b tt fe xs (backR vs ρ _) with
          | ok z => rw [e] at h; cases h
          | exc c fs => exact compL_exc e
          | stuck => rw [e] at h; cases h
        · cases h
      · exact compL_exc h
      · cases h

section
variable {X : Cx} {W : WX} {L : Lc} {os os1 os2 os3 osN : Os} {elt tg iter : Expr} {ifs : List Expr} {scope : Scope} {own : List (Str × Nat)} {pos : Pos} {ch : List Nat}
  {fi : Rho → Out (List D × Rho)} {b : D → Rho → Option Rho} {tt : Rho → Out (Bool × Rho)} {fe : Rho → Out (D × Rho)}
abbrev blkX (X : Cx) (scope : Scope) (s : Shared) (H : Hp) (C : Addr) (cl : List (Str × Addr)) (fp : List Addr) : Cx := X.blk s H scope (compEnvC scope cl C X.env) fp
theorem uniG (hg : ∀ s H C cl fp, VG (blkX X scope s H C cl fp) os tg b ch os1) : ∃ t : TG, (∀ s H C cl fp, PG (blkX X scope s H C cl fp) tg t) ∧
    ∀ S σ H ρ v d ρ' Q, Rel X.K S H os σ ρ → At X.K S v d → b d ρ = some ρ' → (∀ σ', Rel X.K S H os1 σ' ρ' → ChOn ch σ σ' → (∀ a, Own os1 σ' a → Own os σ a) → Q σ' H) → t v σ H Q := by
  refine ⟨fun v σ H Q => ∀ s H0 C cl fp, Classical.choose (hg s H0 C cl fp) v σ H Q, fun s H C cl fp => ⟨fun pins s' σ H' v u Q I r h => ?_⟩, fun S σ H ρ v d ρ' Q rel hv hb hq s H0 C cl fp => ?_⟩
  · exact (Classical.choose_spec (hg s H C cl fp)).1.run pins s' σ H' v u Q I r (h s H C cl fp)
  · exact (Classical.choose_spec (hg s H0 C cl fp)).2 S σ H ρ v d ρ' Q rel hv hb hq
theorem uniE (he : ∀ s H C cl fp, VE (blkX X scope s H C cl fp) W0 os elt fe os1 false) : ∃ t : TE, (∀ s H C cl fp, PE (blkX X scope s H C cl fp) elt t) ∧
    ∀ S σ H ρ Q, Rel X.K S H os σ ρ → Post X W0 S H os σ os1 (RV X.K false) Q (fe ρ) → t σ H Q := by
  refine ⟨fun σ H Q => ∀ s H0 C cl fp, Classical.choose (he s H0 C cl fp) σ H Q, fun s H C cl fp => ⟨fun pins s' σ H' Q I h => ?_⟩, fun S σ H ρ Q rel P s H0 C cl fp => ?_⟩
  · exact (Classical.choose_spec (he s H C cl fp)).1.run pins s' σ H' Q I (h s H C cl fp)
  · exact (Classical.choose_spec (he s H0 C cl fp)).2 S σ H ρ Q rel (by cases h : fe ρ <;> rw [h] at P <;> exact P)
theorem uniT (ht : ∀ s H C cl fp, VTs (blkX X scope s H C cl fp) W0 os ifs tt os1) : ∃ t : TT, (∀ s H C cl fp, PTs (blkX X scope s H C cl fp) ifs t) ∧
    ∀ S σ H ρ Q, Rel X.K S H os σ ρ → Post X W0 S H os σ os1 RB Q (tt ρ) → t σ H Q := by
  refine ⟨fun σ H Q => ∀ s H0 C cl fp, Classical.choose (ht s H0 C cl fp) σ H Q, fun s H C cl fp => ⟨fun pins s' σ H' Q I h => ?_⟩, fun S σ H ρ Q rel P s H0 C cl fp => ?_⟩
  · exact (Classical.choose_spec (ht s H C cl fp)).1.run pins s' σ H' Q I (h s H C cl fp)
  · exact (Classical.choose_spec (ht s H0 C cl fp)).2 S σ H ρ Q rel (by cases h : tt ρ <;> rw [h] at P <;> exact P)

theorem lc_read {wi : TI} {g : TG} {t1 : TT} {te : TE} {vs : List Nat} (ki : ∀ S σ H ρ R, Rel X.K S H os σ ρ → Post X W S H os σ os1 (RI X.K) R (fi ρ) → wi σ H R)
    (kg : ∀ S σ H ρ v d ρ' Q, Rel X.K S H os1 σ ρ → At X.K S v d → b d ρ = some ρ' → (∀ σ', Rel X.K S H os2 σ' ρ' → ChOn ch σ σ' → (∀ a, Own os2 σ' a → Own os1 σ a) → Q σ' H) → g v σ H Q)
    (kt : ∀ S σ H ρ Q, Rel X.K S H os2 σ ρ → Post X W0 S H os2 σ os1 RB Q (tt ρ) → t1 σ H Q) (ke : ∀ S σ H ρ Q, Rel X.K S H os1 σ ρ → Post X W0 S H os1 σ os1 (RV X.K false) Q (fe ρ) → te σ H Q)
    (hch : ∀ i ∈ ch, i ∈ vs) (hv : vs.all (fun v => !os1.getD v false) = true) : ∀ S σ H ρ Q, Rel X.K S H os σ ρ → Post X W S H os σ os1 (RV X.K true) Q (eComp vs fi b tt fe ρ) → tLc wi g t1 te vs σ H Q := by
  intro S σ H ρ Q rel P
  refine ki S σ H ρ _ rel (Post.seq P (fun z => z) (fun c fs p => p) fun items ρ1 J S1 H1 st1 rel1 q1 P1 => ?_)
  obtain ⟨hz, q1⟩ := q1
  have P1 : Post X W S1 H1 os1 σ os1 (RV X.K true) Q ((compL vs b tt fe items ρ1).bind fun q => .ok (.lst q.1, q.2)) := P1.step RV.ok st1
  intro D0 hD
  cases hc : compL vs b tt fe items ρ1 with
  | stuck => rw [hc] at P1; exact P1.elim
  | exc c fs => exact (compL_exc hc).elim
  | ok z =>
    obtain ⟨ds, ρe⟩ := z
    rw [hc] at P1
    refine ⟨fun i m H' => i + m = items.length ∧ ∃ S' ρ' accV acc dsr, Same S1 S' ∧ Ext (Own os1 σ) S1 H1 S' H' ∧ Rel X.K S' H' os1 σ ρ' ∧ S' D0 = none ∧ H' D0 = some (.lst accV) ∧ AtL X.K S' accV acc ∧ compL vs b tt fe (items.drop i) ρ' = .ok (dsr, ρe) ∧ ds = acc ++ dsr ∧ acc.length ≤ i,
      ⟨items.length, by omega, S1, ρ1, [], [], ds, Same.refl _, Ext.newO rel1.sub hD, rel1.newO hD, rel1.sub.free hD, upd_same, .nil, hc, rfl, Nat.le_refl _⟩, ?_⟩
    rintro i m H' ⟨hm, S', ρ', accV, acc, dsr, s1, x1, rel', nD, eD, hacc, hcl, hds, hal⟩
    obtain ⟨hstop, hgo⟩ := q1 i S' H' s1 rel'.sub
    by_cases hlt : i < items.length
    · have ed := List.getElem?_eq_getElem hlt
      obtain ⟨go, hy⟩ := hgo _ ed
      rw [List.drop_eq_getElem_cons hlt] at hcl
      unfold compL at hcl
      refine .inr ⟨go, fun H'' => ∃ S'' ρ'' accV' acc' dsr', Same S1 S'' ∧ Ext (Own os1 σ) S1 H1 S'' H'' ∧ Rel X.K S'' H'' os1 σ ρ'' ∧ S'' D0 = none ∧ H'' D0 = some (.lst accV') ∧ AtL X.K S'' accV' acc' ∧ compL vs b tt fe (items.drop (i + 1)) ρ'' = .ok (dsr', ρe) ∧ ds = acc' ++ dsr' ∧ acc'.length ≤ i + 1,
        fun H'' h => ⟨m - 1, by omega, by omega, h⟩, fun x H2 y => ?_⟩
      obtain ⟨S2, x2, hat⟩ := hy x H2 y
      have rel2 := rel'.ext0 x2
      obtain ⟨eD2, nD2⟩ := x2.fr D0 _ eD nD fun z => z
      have hacc2 := hacc.mono x2.s
      cases eb : b items[i] (wipeR ρ' vs) with
      | none => rw [eb] at hcl; cases hcl
      | some ρ2 =>
        rw [eb] at hcl
        dsimp only at hcl
        refine kg S2 (wipe σ vs) H2 (wipeR ρ' vs) x _ ρ2 _ (rel2.wipe hv) hat eb fun σ3 rel3 f3 o3 => ?_
        refine ⟨wipe_eq f3 hch, ?_⟩
        have hl3 : σ3.length = σ.length := by rw [f3.1, wipe_length]
        have ho3 : ∀ i, i ∉ vs → σ3[i]? = σ[i]? := fun i hi => by rw [f3.2 i fun z => hi (hch i z), wipe_out hi]
        -- the result's cell is nobody's
        have noD : ∀ {K S H os σ ρ}, Rel K S H os σ ρ → H D0 ≠ none → S D0 = none → (Own os σ D0 → False) → True := fun _ _ _ _ => trivial
        have nown : ¬ Own os1 σ D0 := fun z => by
          obtain ⟨_, o, eo⟩ := rel1.owned z
          rw [hD] at eo; cases eo
        have nown2 : ¬ Own os2 σ3 D0 := fun z => nown ((own_wipe hv).mp (o3 D0 z))
        have sub3 : ∀ a, Own os2 σ3 a → Own os1 σ a := fun a z => (own_wipe hv).mp (o3 a z)
        cases et : tt ρ2 with
        | stuck => rw [et] at hcl; cases hcl
        | exc c fs => rw [et] at hcl; cases hcl
        | ok z =>
          obtain ⟨bb, ρ3⟩ := z
          rw [et] at hcl
          refine kt S2 σ3 H2 ρ2 _ rel3 ?_
          rw [et]
          intro b' S4 H4 st4 rel4 q4
          cases q4
          obtain ⟨eD4, nD4⟩ := st4.ext.fr D0 _ eD2 nD2 nown2
          have x4 : Ext (Own os1 σ) S2 H2 S4 H4 := st4.ext.weak sub3
          have xa : Ext (Own os1 σ) S1 H1 S4 H4 := x1.trans ((x2.weak fun _ z => z.elim).trans x4 fun c z => .inl z) fun c z => .inl z
          cases bb with
          | false =>
            dsimp only at hcl
            rw [if_neg Bool.false_ne_true]
            exact ⟨S4, backR vs ρ' ρ3, accV, acc, dsr, xa.s, xa, rel2.back hv st4.ext.s rel4 hl3 ho3, nD4, eD4, hacc2.mono st4.ext.s, hcl, hds, by omega⟩
          | true =>
            dsimp only at hcl
            rw [if_pos rfl]
            cases ee : fe ρ3 with
            | stuck => rw [ee] at hcl; cases hcl
            | exc c fs => rw [ee] at hcl; cases hcl
            | ok z =>
              obtain ⟨d, ρ4⟩ := z
              rw [ee] at hcl
              dsimp only at hcl
              refine ke S4 σ3 H4 ρ3 _ rel4 ?_
              rw [ee]
              intro v S5 H5 st5 rel5 q5
              have q5 : At X.K S5 v d := q5
              have nown4 : ¬ Own os1 σ3 D0 := fun z => nown ((own_back hv ho3).mp z)
              obtain ⟨eD5, nD5⟩ := st5.ext.fr D0 _ eD4 nD4 nown4
              cases hcc : compL vs b tt fe (items.drop (i + 1)) (backR vs ρ' ρ4) with
              | stuck => rw [hcc] at hcl; cases hcl
              | exc c fs => exact (compL_exc hcc).elim
              | ok z =>
                obtain ⟨ds', ρe'⟩ := z
                rw [hcc] at hcl
                have hcl : Out.ok (d :: ds', ρe') = Out.ok (dsr, ρe) := hcl
                injection hcl with hcl
                injection hcl with h1 h2
                subst h1 h2
                have x5 : Ext (Own os1 σ) S4 H4 S5 H5 := st5.ext.weak fun a z => (own_back hv ho3).mp z
                have xb : Ext (Own os1 σ) S1 H1 S5 H5 := xa.trans x5 fun c z => .inl z
                have accl : accV.length = acc.length := hacc.length
                have relb : Rel X.K S5 H5 os1 σ (backR vs ρ' ρ4) := rel2.back hv (st4.ext.s.trans st5.ext.s) rel5 hl3 ho3
                refine ⟨accV, eD5, by omega, S5, backR vs ρ' ρ4, accV ++ [v], acc ++ [d], ds', xb.s, ?_, ?_, nD5, upd_same, ((hacc2.mono st4.ext.s).mono st5.ext.s).append (.cons q5 .nil), hcc, by rw [hds, List.append_assoc]; rfl, by rw [List.length_append]; simp; omega⟩
                · refine ⟨xb.s, fun c o e => ?_, fun c o e n no => ?_, fun c e => ?_⟩
                  · have hcD : c ≠ D0 := fun z => by rw [z, nD5] at e; cases e
                    rw [upd_ne hcD]; exact xb.sh c o e
                  · obtain ⟨e1, n1⟩ := xb.fr c o e n no
                    have hcD : c ≠ D0 := fun z => by rw [z, hD] at e; cases e
                    rw [upd_ne hcD]; exact ⟨e1, n1⟩
                  · by_cases hcD : c = D0
                    · rw [hcD, upd_same] at e; cases e
                    · rw [upd_ne hcD] at e; exact xb.there c e
                · refine relb.grow (S' := S5) (H' := upd H5 D0 (.lst (accV ++ [v]))) (O := fun c => c = D0) ⟨Same.refl _, fun c o e => ?_, fun c o e n no => ?_, fun c e => ?_⟩ fun c z hz => nown (hz ▸ z)
                  · have hcD : c ≠ D0 := fun z => by rw [z, nD5] at e; cases e
                    rw [upd_ne hcD]; exact relb.sub c o e
                  · rw [upd_ne no]; exact ⟨e, n⟩
                  · by_cases hcD : c = D0
                    · rw [hcD, upd_same] at e; cases e
                    · rw [upd_ne hcD] at e; exact e
    · refine .inl ⟨hstop (by omega), ?_⟩
      rw [List.drop_of_length_le (by omega)] at hcl
      have hcl : Out.ok ([], ρ') = Out.ok (dsr, ρe) := hcl
      injection hcl with hcl
      injection hcl with h1 h2
      subst h1 h2
      rw [List.append_nil] at hds
      subst hds
      exact P1 (.ref D0) S' H' ⟨x1, fun a q => .inl q⟩ rel' ⟨OwnAt.mkL (ds := ds) nD eD (by omega) hacc, fun a e => by cases e; exact hD⟩

/-- [elt for tg in iter if ..] -/
theorem ve_lc (ok : BlkOk X.N X.env.scope scope own) (hi : VI X W os tg iter fi os1) (hg : ∀ s H C cl fp, VG (blkX X scope s H C cl fp) os1 tg b ch os2) (ht : ∀ s H C cl fp, VTs (blkX X scope s H C cl fp) W0 os2 ifs tt os1)
    (he : ∀ s H C cl fp, VE (blkX X scope s H C cl fp) W0 os1 elt fe os1 false) (hN : X.N.Nodup) (hch : ∀ i ∈ ch, i ∈ own.map (·.2) := by decide) (hv : (own.map (·.2)).all (fun v => !os1.getD v false) = true := by rfl) (hc : X.calm = true := by rfl) (hs : ∀ x, foldedSetIterable iter X.env x = pure x := by intro _; rfl) :
    VE X W os (.ListComp elt [⟨tg, iter, ifs, 0⟩] scope pos) (eComp (own.map (·.2)) fi b tt fe) os1 true := by
  obtain ⟨wi, pi, ki⟩ := hi
  obtain ⟨g, pg, kg⟩ := uniG hg
  obtain ⟨t1, pt, kt⟩ := uniT ht
  obtain ⟨te, pe, ke⟩ := uniE he
  exact ⟨_, pe_lc hc hN pi ok pg pt pe hs, lc_read ki kg kt ke hch hv⟩
/-- x = [elt for ..], x a plain local name: it owns the list -/
theorem vs_setLc (i : Nat) {x : Str} {p spos : Pos} (ok : BlkOk X.N X.env.scope scope own) (hi : VI X W os tg iter fi os1) (hg : ∀ s H C cl fp, VG (blkX X scope s H C cl fp) os1 tg b ch os2) (ht : ∀ s H C cl fp, VTs (blkX X scope s H C cl fp) W0 os2 ifs tt os1)
    (he : ∀ s H C cl fp, VE (blkX X scope s H C cl fp) W0 os1 elt fe os1 false) (hN : X.N.Nodup) (hsw : swapsWith (.ListComp elt [⟨tg, iter, ifs, 0⟩] scope pos) (some (.Name x p)) spos.line X.env = pure true) (hx : X.N[i]? = some x := by rfl) (hxl : X.env.scope.names.lookup x = some .local := by rfl) (hfi : L.fx.getD i false = false := by rfl) (hio : i < os1.length := by decide) (hle : Le os1 os := by rfl)
    (hch : ∀ i ∈ ch, i ∈ own.map (·.2) := by decide) (hv : (own.map (·.2)).all (fun v => !os1.getD v false) = true := by rfl) (hc : X.calm = true := by rfl) (hs : ∀ x, foldedSetIterable iter X.env x = pure x := by intro _; rfl) :
    VS X W L os (.Assign [.Name x p] (.ListComp elt [⟨tg, iter, ifs, 0⟩] scope pos) spos) (sSet i (eComp (own.map (·.2)) fi b tt fe)) (os1.set i true) := by
  obtain ⟨wi, pi, ki⟩ := hi
  obtain ⟨g, pg, kg⟩ := uniG hg
  obtain ⟨t1, pt, kt⟩ := uniT ht
  obtain ⟨te, pe, ke⟩ := uniE he
  refine ⟨_, ps_setLc hc hN hx hxl hsw pi ok pg pt pe hs, fun S σ H ρ Ds rel P => ?_⟩
  refine lc_read ki kg kt ke hch hv S σ H ρ _ rel (Post.seq P (fun z => z) (fun _ _ p S' H' cls dd e q => p σ S' H' cls dd e q) fun d ρ1 v S1 H1 s1 r1 q1 P1 => ?_)
  refine P1 _ S1 H1 ⟨s1.ext, fun a q => ?_⟩ (fix_set hfi) (r1.setO q1.1 (fun a ea j hj ho hs => ?_) hio)
  · rcases own_setO q with q | q
    · exact s1.own a q
    · exact .inr (q1.2 a q)
  · obtain ⟨n, o, eo⟩ := rel.owned ⟨j, getD_le hle ho, hs⟩
    rw [q1.2 a ea] at eo
    cases eo
/-- what a name owns stands behind a statement -/
theorem VS.fz {st : Stmt} {g : Rho → Out Fl} (i : Nat) (h : VS X W L os st g osN) : VS X W L os st g (osN.set i false) := by
  obtain ⟨t, p, k⟩ := h
  refine ⟨t, p, fun S σ H ρ Ds rel P => k S σ H ρ Ds rel ?_⟩
  cases e : g ρ with
  | ok z =>
    rw [e] at P
    cases z with
    | nx ρ' =>
      intro σ' S' H' s' f' r'
      obtain ⟨S'', _, r'', s'', _⟩ := freeze1 r' i
      exact P σ' S'' H' (s'.trans s'') f' r''
    | bk ρ' => exact P
    | ct ρ' => exact P
    | rt d ρ' => exact P
  | exc c fs => rw [e] at P; exact P
  | stuck => rw [e] at P; exact P
theorem VSs.fz {st : List Stmt} {g : Rho → Out Fl} (i : Nat) (h : VSs X W L os st g osN) : VSs X W L os st g (osN.set i false) := by
  obtain ⟨t, p, k⟩ := h
  refine ⟨t, p, fun S σ H ρ Ds rel P => k S σ H ρ Ds rel ?_⟩
  cases e : g ρ with
  | ok z =>
    rw [e] at P
    cases z with
    | nx ρ' =>
      intro σ' S' H' s' f' r'
      obtain ⟨S'', _, r'', s'', _⟩ := freeze1 r' i
      exact P σ' S'' H' (s'.trans s'') f' r''
    | bk ρ' => exact P
    | ct ρ' => exact P
    | rt d ρ' => exact P
  | exc c fs => rw [e] at P; exact P
  | stuck => rw [e] at P; exact P
end
end SW

set_option maxRecDepth 100000
/-! SW7: operators, comparisons, subscripts, slices, built-ins, methods that turn an owned list. -/
namespace SW
open PySem PySem.Spec PyProof.Rows L2

section
variable {X : Cx} {S H : Hp}
/-! ### numbers -/
def iop2 (c : Int → Int → Bool) (g : Int → Int → D) : D → D → Option D
  | .int i, .int j => if c i j = true then some (g i j) else none
  | _, _ => none
theorem op2_int {f : Value → Value → Sem Value} {C : Int → Int → Prop} {gv : Int → Int → V} {c : Int → Int → Bool} {g : Int → Int → D} (ho : OpR X f (rI C gv)) (hc : ∀ i j, c i j = true → C i j) (hg : ∀ K S i j, At K S (gv i j) (g i j)) : Op2 X f (iop2 c g) := by
  refine ⟨_, ho, fun S H x y a b d Q sub ha hb e k => ?_⟩
  cases ha with
  | int i =>
    cases hb with
    | int j =>
      have e : (if c i j = true then some (g i j) else none) = some d := e
      split at e
      · rename_i h
        cases e
        exact ⟨i, j, rfl, rfl, hc i j h, k _ S H (Ext.refl sub) (hg _ _ _ _)⟩
      · cases e
    | _ => cases e
  | _ => cases e
theorem Op2.or {f : Value → Value → Sem Value} {g1 g2 : D → D → Option D} (h1 : Op2 X f g1) (h2 : Op2 X f g2) : Op2 X f (fun a b => match g1 a b with | some c => some c | none => g2 a b) := by
  obtain ⟨r1, o1, k1⟩ := h1
  obtain ⟨r2, o2, k2⟩ := h2
  refine ⟨fun x y H Q => r1 x y H Q ∨ r2 x y H Q, fun pins s σ H x y v u Q I rx ry q => ?_, fun S H x y a b c Q sub ha hb e k => ?_⟩
  · rcases q with q | q
    · exact o1 pins s σ H x y v u Q I rx ry q
    · exact o2 pins s σ H x y v u Q I rx ry q
  · dsimp only at e
    cases e1 : g1 a b with
    | some c1 =>
      rw [e1] at e
      cases e
      exact .inl (k1 S H x y a b _ Q sub ha hb e1 k)
    | none =>
      rw [e1] at e
      exact .inr (k2 S H x y a b c Q sub ha hb e k)
def always (_ _ : Int) : Bool := true
def bits2 (i j : Int) : Bool := decide (i.natAbs.log2 + j.natAbs.log2 < 134000000) || decide (i.natAbs < 2 ^ 63) || decide (j.natAbs < 2 ^ 63)
theorem mul_wide {i j : Int} (h3 : i.natAbs.log2 + j.natAbs.log2 < 134000000) : IntMulOk i j := by
  have b : ∀ x : Int, Builtin.Int.intBits x ≤ x.natAbs.log2 + 1 := fun x => by
    unfold Builtin.Int.intBits
    split <;> omega
  have h1 := b i
  have h2 := b j
  have e : bitsLine = 134217728 := by decide
  unfold IntMulOk
  intro z
  rw [Bool.and_eq_true] at z
  have z2 : decide ((((Builtin.Int.intBits i + Builtin.Int.intBits j : Nat) : Int)) > bitsLine) = true := z.2
  have z3 := of_decide_eq_true z2
  rw [e] at z3
  omega
theorem bits2_ok {i j : Int} (h : bits2 i j = true) : IntMulOk i j := by
  unfold bits2 at h
  rw [Bool.or_eq_true, Bool.or_eq_true] at h
  rcases h with (h | h) | h
  · have h' : i.natAbs.log2 + j.natAbs.log2 < 134000000 := of_decide_eq_true h
    exact mul_wide h'
  · have h := of_decide_eq_true h
    exact .of_left (intBits_le_64 (by omega) (by omega))
  · have h := of_decide_eq_true h
    exact .of_right (intBits_le_64 (by omega) (by omega))
theorem rI0_rI {f : Value → Value → Sem Value} {g : Int → Int → V} (h : OpR X f (rI0 g)) : OpR X f (rI (fun _ _ => True) g) := fun pins s σ H x y v u Q I rx ry ⟨i, j, e1, e2, _, q⟩ => h pins s σ H x y v u Q I rx ry ⟨i, j, e1, e2, q⟩
theorem op_mulA : OpR X (binaryOp .Mult) (rI IntMulOk fun i j => .int (i * j)) := opI fun _ _ _ _ _ _ _ hc q => mul_int q hc
def fdivOk (_ j : Int) : Bool := j != 0

theorem strKeys_of {es : Array DictEntry} (h : strKeysB es = true) : StrKeys es := fun e he => by
  have q := List.all_eq_true.mp h e (Array.mem_toList_iff.mpr he)
  cases z : e.key with
  | str n t => exact ⟨n, t, rfl⟩
  | _ => rw [z] at q; cases q
theorem noneAt_of {es : Array DictEntry} {x : Str} (h : noneAt es x = true) : nsFind es x = none := by
  unfold noneAt at h
  exact Option.isNone_iff_eq_none.mp h
theorem seer_of {K : PySem.W.Frag} {h : Heap} {mg : Str → Option Value} (hK : K.In h) (hb : ∃ mb, h.Ns builtinsNs mb ∧ ∀ x : Str, x ≠ "__name__" → mb x = bootBuiltins x) (hg : h.Ns mainGlobals mg) (b : seerB K = true) : h.NoSeer := by
  unfold seerB at b
  obtain ⟨b1, b'⟩ := Bool.and_eq_true_iff.mp b
  obtain ⟨b2, b3⟩ := Bool.and_eq_true_iff.mp b'
  refine ⟨?_, ?_, hb, ?_⟩
  · split at b1
    · rename_i c d es ep sl e
      obtain ⟨k, q⟩ := Bool.and_eq_true_iff.mp b1
      obtain ⟨q1, q2⟩ := Bool.and_eq_true_iff.mp q
      exact ⟨nsFind es, ⟨_, es, ep, hK _ _ e, rfl, strKeys_of k, fun _ => rfl⟩, noneAt_of q1, noneAt_of q2⟩
    · cases b1
  · split at b2
    · rename_i c d es ep sl e
      obtain ⟨k, q1⟩ := Bool.and_eq_true_iff.mp b2
      exact ⟨nsFind es, ⟨_, es, ep, hK _ _ e, rfl, strKeys_of k, fun _ => rfl⟩, noneAt_of q1⟩
    · cases b2
  · split at b3
    · rename_i bm e
      split at b3
      · rename_i x d dt sl e2
        obtain ⟨q1, q2⟩ := Bool.and_eq_true_iff.mp b3
        refine ⟨mg, bm, _, hg, PySem.W.mg_of hK hg e, hK _ _ e2, ?_, ?_⟩
        · show Value.type x = Value.type "module"
          rw [eq_of_beq q1]
        · show some d = some builtinsNs
          rw [eq_of_beq q2]
      · cases b3
    · cases b3
/-- what a division by a divisor of any size asks of the context -/
structure Dv (X : Cx) : Prop where
  seer : seerB X.K = true
  tree : X.prog.given.tree = none
  dp : X.A.depth + 100 < recursionLimit
  st : ∃ env l, X.stack = env :: l ∧ env.scope.isGenerator = false ∧ env.scope.isCoroutine = false ∧ env.builtins = builtinsNs ∧ env.globals = mainGlobals
theorem dv_room {k : Nat} {A : Around} (r : Room k A) (h : 32 ≤ k) : A.depth + 100 < recursionLimit := by have := r.dp; omega
theorem op_fdivP (hd : Dv X) : OpR X (binaryOp .FloorDiv) (rI (fun _ j => j ≠ 0) fun i j => .int (i.fdiv j)) := by
  intro pins s σ H x y v u Q I rx ry h
  obtain ⟨i, j, rfl, rfl, hc, q⟩ := h
  obtain ⟨t, rfl⟩ := rx
  obtain ⟨t', rfl⟩ := ry
  obtain ⟨env, l, e, g1, g2, g3, g4⟩ := hd.st
  obtain ⟨mb, hb, hb2⟩ := I.ok.mod.blt
  have hN : s.heap.NoSeer := seer_of I.kIn ⟨mb, hb.keeps I.bk, hb2⟩ (I.ok.mod.glob.keeps I.bk) hd.seer
  exact floordiv_int hc ⟨.int (i.fdiv j), H, I.tok _, ⟨_, rfl⟩, q⟩ (.inr (PylongRoom.of I.nolimit hd.dp (SeerAt.of hN hd.tree (I.ok.frames.trans (congrArg some e)) g1 g2 g3 g4)))
def addI := iop2 always fun i j => .int (i + j)
def subD := iop2 always fun i j => .int (i - j)
def mulI := iop2 bits2 fun i j => .int (i * j)
def fdivD := iop2 fdivOk fun i j => .int (i.fdiv j)
def modD := iop2 (fun _ j => j != 0) fun i j => .int (i.fmod j)
def powOk (i j : Int) : Bool := decide (0 ≤ j) && decide (j ≤ 1000000) && decide (i.natAbs < 2 ^ 64)
def powD := iop2 powOk fun i j => .int (i ^ j.toNat)
def shlD := iop2 powOk fun i j => .int (i * 2 ^ j.toNat)
theorem o_addI : Op2 X (binaryOp .Add) addI := op2_int (rI0_rI op_add) (fun _ _ _ => trivial) fun _ _ _ _ => .int _
theorem o_sub : Op2 X (binaryOp .Sub) subD := op2_int (rI0_rI op_sub) (fun _ _ _ => trivial) fun _ _ _ _ => .int _
theorem o_mulI : Op2 X (binaryOp .Mult) mulI := op2_int op_mulA (fun _ _ h => bits2_ok h) fun _ _ _ _ => .int _
theorem o_fdiv (hd : Dv X) : Op2 X (binaryOp .FloorDiv) fdivD := op2_int (op_fdivP hd) (fun _ j h => by
  unfold fdivOk at h
  simpa using h) fun _ _ _ _ => .int _
theorem o_mod : Op2 X (binaryOp .Mod) modD := op2_int op_modN (fun _ j h => by simpa using h) fun _ _ _ _ => .int _
theorem powOk_iff {i j : Int} (h : powOk i j = true) : CPow i j := by
  unfold powOk at h
  rw [Bool.and_eq_true, Bool.and_eq_true] at h
  exact ⟨of_decide_eq_true h.1.1, of_decide_eq_true h.1.2, of_decide_eq_true h.2⟩
theorem o_pow : Op2 X (binaryOp .Pow) powD := op2_int op_pow (fun _ _ h => powOk_iff h) fun _ _ _ _ => .int _
theorem o_shl : Op2 X (binaryOp .LShift) shlD := op2_int op_shl (fun _ _ h => powOk_iff h) fun _ _ _ _ => .int _
def ltI := iop2 always fun i j => .bl (decide (i < j))
def leI := iop2 always fun i j => .bl (decide (i ≤ j))
def gtI := iop2 always fun i j => .bl (decide (j < i))
def geI := iop2 always fun i j => .bl (decide (j ≤ i))
theorem o_ltI : Op2 X (compareOp .Lt) ltI := op2_int (rI0_rI op_lt) (fun _ _ _ => trivial) fun _ _ _ _ => .bl _
theorem o_leI : Op2 X (compareOp .LtE) leI := op2_int (rI0_rI op_le) (fun _ _ _ => trivial) fun _ _ _ _ => .bl _
theorem o_gtI : Op2 X (compareOp .Gt) gtI := op2_int (rI0_rI op_gt) (fun _ _ _ => trivial) fun _ _ _ _ => .bl _
theorem o_geI : Op2 X (compareOp .GtE) geI := op2_int (rI0_rI op_ge) (fun _ _ _ => trivial) fun _ _ _ _ => .bl _
def negD : D → Option D
  | .int i => some (.int (-i))
  | _ => none
theorem o_neg : Op1 X (unaryOp .USub) negD := ⟨_, un_neg, fun S H x a c Q sub ha e k => by
  cases ha with
  | int i => cases e; exact ⟨i, rfl, k _ S H (Ext.refl sub) (.int _)⟩
  | _ => cases e⟩

/-! ### data that are compared -/
mutual
def D.py : D → Option PyData
  | .non => some .none
  | .bl b => some (.bool b)
  | .int i => some (.int i)
  | .str x => some (.str x)
  | .tup xs => (D.pyL xs).map .tuple
  | .lst xs => (D.pyL xs).map .list
  | .scr ns => some (.list (ns.map .int))
  | .dct _ => none
  | .ins _ _ => none
  | .exc _ _ => none
  | .ty _ => none
def D.pyL : List D → Option (List PyData)
  | [] => some []
  | x :: xs => match D.py x, D.pyL xs with
    | some p, some ps => some (p :: ps)
    | _, _ => none
end
theorem dp_ints {K : PySem.W.Frag} {H : Hp} : ∀ ns : List Int, DpAll K H (ns.map V.int) (ns.map PyData.int)
  | [] => .nil
  | n :: ns => .cons (.int n) (dp_ints ns)
mutual
theorem At.dp {K : PySem.W.Frag} {S : Hp} : ∀ {v : V} {d : D} {p : PyData}, At K S v d → d.py = some p → Dp K S v p
  | _, _, _, .non, e => by cases e; exact .non
  | _, _, _, .bl b, e => by cases e; exact .bl b
  | _, _, _, .int i, e => by cases e; exact .int i
  | _, _, _, .str x, e => by cases e; exact .str x
  | _, .tup ds, _, .tup h z r, e => by
    unfold D.py at e
    cases q : D.pyL ds with
    | none => rw [q] at e; cases e
    | some ps => rw [q] at e; cases e; exact .tup h (AtL.dp r q)
  | _, .lst ds, _, .lst h z r, e => by
    unfold D.py at e
    cases q : D.pyL ds with
    | none => rw [q] at e; cases e
    | some ps => rw [q] at e; cases e; exact .lst (.of h) (AtL.dp r q)
  | _, _, _, .scr h z, e => by cases e; exact .lst h (dp_ints _)
  | _, _, _, .dct _ _ _ _, e => by cases e
  | _, _, _, .ins _ _ _ _ _, e => by cases e
  | _, _, _, .exc0 _ _, e => by cases e
  | _, _, _, .exc1 _ _ _ _, e => by cases e
  | _, _, _, .ty _ _, e => by cases e
theorem AtL.dp {K : PySem.W.Frag} {S : Hp} : ∀ {vs : List V} {ds : List D} {ps : List PyData}, AtL K S vs ds → D.pyL ds = some ps → DpAll K S vs ps
  | _, _, _, .nil, e => by cases e; exact .nil
  | _, d :: ds, _, .cons h r, e => by
    unfold D.pyL at e
    cases q1 : D.py d with
    | none => rw [q1] at e; cases e
    | some p =>
      cases q2 : D.pyL ds with
      | none => rw [q1, q2] at e; cases e
      | some ps => rw [q1, q2] at e; cases e; exact .cons (At.dp h q1) (AtL.dp r q2)
end
theorem Dp.mono' {K : PySem.W.Frag} {S S' : Hp} (e : Same S S') {v : V} {d : D} {p : PyData} (h : At K S v d) (q : d.py = some p) : Dp K S' v p := (h.mono e).dp q
def cmpP (g : PyData → PyData → Bool) (ok : PyData → PyData → Bool) : D → D → Option D := fun a b => match a.py, b.py with
  | some p, some q => if ok p q = true then some (.bl (g p q)) else none
  | _, _ => none
theorem cmpP_some {g ok} {a b c : D} (h : cmpP g ok a b = some c) : ∃ p q, a.py = some p ∧ b.py = some q ∧ ok p q = true ∧ c = .bl (g p q) := by
  unfold cmpP at h
  cases e1 : a.py with
  | none => rw [e1] at h; cases h
  | some p =>
    cases e2 : b.py with
    | none => rw [e1, e2] at h; cases h
    | some q =>
      rw [e1, e2] at h
      dsimp only at h
      split at h
      · rename_i ho
        cases h
        exact ⟨p, q, rfl, rfl, ho, rfl⟩
      · cases h
def shOk (p q : PyData) : Bool := SeqAt.shaped p && SeqAt.shaped q
def eqD := cmpP PyData.eqv shOk
def neD := cmpP (fun p q => !PyData.eqv p q) shOk
theorem o_eq (hu : X.A.units + 64 < cLine) : Op2 X (compareOp .Eq) eqD := ⟨_, op_eqD hu, fun S H x y a b c Q sub ha hb e k => by
  obtain ⟨p, q, e1, e2, ho, rfl⟩ := cmpP_some e
  unfold shOk at ho
  rw [Bool.and_eq_true] at ho
  exact ⟨p, q, (ha.mono sub).dp e1, (hb.mono sub).dp e2, ho.1, ho.2, k _ S H (Ext.refl sub) (.bl _)⟩⟩
theorem o_ne (hu : X.A.units + 64 < cLine) : Op2 X (compareOp .NotEq) neD := ⟨_, op_neD hu, fun S H x y a b c Q sub ha hb e k => by
  obtain ⟨p, q, e1, e2, ho, rfl⟩ := cmpP_some e
  unfold shOk at ho
  rw [Bool.and_eq_true] at ho
  exact ⟨p, q, (ha.mono sub).dp e1, (hb.mono sub).dp e2, ho.1, ho.2, k _ S H (Ext.refl sub) (.bl _)⟩⟩
def notNone : PyData → Bool
  | .none => false
  | _ => true
def alOk (p q : PyData) : Bool := PySem.W.alike p q && notNone p && decide (p.depth ≤ 64)
def rOrd (K : PySem.W.Frag) (g : PyData → PyData → Bool) : R2 := fun x y H Q => ∃ p q, Dp K H x p ∧ Dp K H y q ∧ alOk p q = true ∧ Q (.bl (g p q)) H
theorem alOk_iff {p q : PyData} (h : alOk p q = true) : PySem.W.alike p q = true ∧ p ≠ .none ∧ p.depth ≤ 64 := by
  unfold alOk at h
  rw [Bool.and_eq_true, Bool.and_eq_true] at h
  refine ⟨h.1.1, fun z => ?_, of_decide_eq_true h.2⟩
  rw [z] at h
  cases h.1.2
theorem op_ord {op : CmpOp} {g : PyData → PyData → Bool} (hu : X.A.units + 64 < cLine)
    (rule : ∀ {E : Value → Shared → Prop} {s : Shared} {a b : Value} {da db : PyData} {as bs : List Addr} {Q : Value → Shared → Prop}, Reads s.heap a da as → Reads s.heap b db bs → PySem.W.alike da db = true → da ≠ .none → X.A.units + min da.depth db.depth < cLine → Q (.bool (g da db)) s → wpAny (model X.prog X.w) X.A (compareOp op a b) Q E s) :
    OpR X (compareOp op) (rOrd X.K g) := by
  intro pins s σ H x y v u Q I rx ry h
  obtain ⟨d, e, hd, he, ok, q⟩ := h
  obtain ⟨al, nn, dp⟩ := alOk_iff ok
  obtain ⟨as, r1⟩ := Dp.reads I d x v hd rx
  obtain ⟨bs, r2⟩ := Dp.reads I e y u he ry
  exact rule r1 r2 al nn (by have := Nat.min_le_left d.depth e.depth; omega) ⟨.bl _, H, I, rfl, q⟩
theorem o_ord {op : CmpOp} {g : PyData → PyData → Bool} (h : OpR X (compareOp op) (rOrd X.K g)) : Op2 X (compareOp op) (cmpP g alOk) := ⟨_, h, fun S H x y a b c Q sub ha hb e k => by
  obtain ⟨p, q, e1, e2, ho, rfl⟩ := cmpP_some e
  exact ⟨p, q, (ha.mono sub).dp e1, (hb.mono sub).dp e2, ho, k _ S H (Ext.refl sub) (.bl _)⟩⟩
def ltD := cmpP PySem.W.dataLt alOk
def gtD := cmpP (fun p q => PySem.W.dataLt q p) alOk
def leD := cmpP (fun p q => !PySem.W.dataLt q p) alOk
def geD := cmpP (fun p q => !PySem.W.dataLt p q) alOk
theorem o_lt (hu : X.A.units + 64 < cLine) : Op2 X (compareOp .Lt) ltD := o_ord (op_ord hu fun a b c d e f => PySem.W.lt_data a b c d e f)
theorem o_gt (hu : X.A.units + 64 < cLine) : Op2 X (compareOp .Gt) gtD := o_ord (op_ord hu fun a b c d e f => PySem.W.gt_data a b c d e f)
theorem o_le (hu : X.A.units + 64 < cLine) : Op2 X (compareOp .LtE) leD := o_ord (op_ord hu fun a b c d e f => PySem.W.le_data a b c d e f)
theorem o_ge (hu : X.A.units + 64 < cLine) : Op2 X (compareOp .GtE) geD := o_ord (op_ord hu fun a b c d e f => PySem.W.ge_data a b c d e f)
/-- is None -/
def isNon : D → D → Option D
  | a, .non => some (.bl (match a with | .non => true | _ => false))
  | _, _ => none
def isntNon : D → D → Option D
  | a, .non => some (.bl (match a with | .non => false | _ => true))
  | _, _ => none
theorem o_is : Op2 X (compareOp .Is) isNon := ⟨_, op_isN, fun S H x y a b c Q sub ha hb e k => by
  cases hb with
  | non => cases ha <;> cases e <;> exact ⟨rfl, k _ S H (Ext.refl sub) (.bl _)⟩
  | _ => cases a <;> cases e⟩
theorem o_isnt : Op2 X (compareOp .IsNot) isntNon := ⟨_, op_notN, fun S H x y a b c Q sub ha hb e k => by
  cases hb with
  | non => cases ha <;> cases e <;> exact ⟨rfl, k _ S H (Ext.refl sub) (.bl _)⟩
  | _ => cases a <;> cases e⟩
/-- in a list (or a tuple's list) of data -/
def inD : D → D → Option D := fun a b => match b with
  | .lst ds => match a.py, D.pyL ds with
    | some p, some qs => if SeqAt.shaped p = true ∧ SeqAt.shaped (.list qs) = true then some (.bl (qs.any fun z => PyData.eqv z p)) else none
    | _, _ => none
  | _ => none
def notInD : D → D → Option D := fun a b => match b with
  | .lst ds => match a.py, D.pyL ds with
    | some p, some qs => if SeqAt.shaped p = true ∧ SeqAt.shaped (.list qs) = true then some (.bl (!qs.any fun z => PyData.eqv z p)) else none
    | _, _ => none
  | _ => none
theorem o_in (hu : X.A.units + 65 < cLine) : Op2 X (compareOp .In) inD := ⟨_, op_inD hu, fun S H x y a b c Q sub ha hb e k => by
  cases hb with
  | @lst aa vs ds h z r =>
    have e : (match a.py, D.pyL ds with
    | some p, some qs => if SeqAt.shaped p = true ∧ SeqAt.shaped (.list qs) = true then some (.bl (qs.any fun z => PyData.eqv z p)) else none
    | _, _ => none) = some c := e
    cases e1 : a.py with
    | none => rw [e1] at e; cases e
    | some p =>
      cases e2 : D.pyL ds with
      | none => rw [e1, e2] at e; cases e
      | some qs =>
        rw [e1, e2] at e
        dsimp only at e
        split at e
        · rename_i ho
          cases e
          exact ⟨p, qs, (ha.mono sub).dp e1, .lst (.of (sub _ _ h)) ((r.mono sub).dp e2), ho.1, ho.2, k _ S H (Ext.refl sub) (.bl _)⟩
        · cases e
  | _ => cases e⟩
theorem o_notin (hu : X.A.units + 65 < cLine) : Op2 X (compareOp .NotIn) notInD := ⟨_, op_notInD hu, fun S H x y a b c Q sub ha hb e k => by
  cases hb with
  | @lst aa vs ds h z r =>
    have e : (match a.py, D.pyL ds with
    | some p, some qs => if SeqAt.shaped p = true ∧ SeqAt.shaped (.list qs) = true then some (.bl (!qs.any fun z => PyData.eqv z p)) else none
    | _, _ => none) = some c := e
    cases e1 : a.py with
    | none => rw [e1] at e; cases e
    | some p =>
      cases e2 : D.pyL ds with
      | none => rw [e1, e2] at e; cases e
      | some qs =>
        rw [e1, e2] at e
        dsimp only at e
        split at e
        · rename_i ho
          cases e
          exact ⟨p, qs, (ha.mono sub).dp e1, .lst (.of (sub _ _ h)) ((r.mono sub).dp e2), ho.1, ho.2, k _ S H (Ext.refl sub) (.bl _)⟩
        · cases e
  | _ => cases e⟩

/-! ### sums of tuples, lists, texts -/
def catT : D → D → Option D
  | .tup xs, .tup ys => if xs.length + ys.length ≤ sizeLine then some (.tup (xs ++ ys)) else none
  | _, _ => none
def catL : D → D → Option D
  | .lst xs, .lst ys => if xs.length + ys.length ≤ sizeLine then some (.lst (xs ++ ys)) else none
  | _, _ => none
def catS : D → D → Option D
  | .str x, .str y => if x.length + y.length ≤ sizeLine then some (.str (x ++ y)) else none
  | _, _ => none
theorem o_catT : Op2 X (binaryOp .Add) catT := ⟨_, op_catA, fun S H x y a b c Q sub ha hb e k => by
  cases ha with
  | @tup p vs xs h z r =>
    cases hb with
    | @tup p2 vs2 ys h2 z2 r2 =>
      have e : (if xs.length + ys.length ≤ sizeLine then some (D.tup (xs ++ ys)) else none) = some c := e
      split at e
      · rename_i hz
        cases e
        have l1 := r.length
        have l2 := r2.length
        refine ⟨p, p2, vs, vs2, rfl, rfl, sqT_mono sub h, sqT_mono sub h2, by rw [l1, l2]; exact hz, fun hx => ?_, fun hx hy => ?_, fun hx hy q nq => ?_⟩
        · subst hx
          cases r
          exact k _ S H (Ext.refl sub) (.tup h2 z2 r2)
        · subst hy
          cases r2
          refine k _ S H (Ext.refl sub) ?_
          rw [List.append_nil]
          exact .tup h z r
        · have xx := Ext.new (O := fun _ => False) (o := .tup (vs ++ vs2)) sub nq
          exact k _ _ _ xx (.tup (.inl (.inl upd_same)) (by rw [List.length_append]; exact hz) ((r.append r2).mono xx.s))
      · cases e
    | _ => cases e
  | _ => cases e⟩
theorem o_catL : Op2 X (binaryOp .Add) catL := ⟨_, op_cat, fun S H x y a b c Q sub ha hb e k => by
  cases ha with
  | @lst p vs xs h z r =>
    cases hb with
    | @lst p2 vs2 ys h2 z2 r2 =>
      have e : (if xs.length + ys.length ≤ sizeLine then some (D.lst (xs ++ ys)) else none) = some c := e
      split at e
      · rename_i hz
        cases e
        have l1 := r.length
        have l2 := r2.length
        refine ⟨p, p2, vs, vs2, rfl, rfl, sub _ _ h, sub _ _ h2, by rw [l1, l2]; exact hz, fun q nq => ?_⟩
        have xx := Ext.new (O := fun _ => False) (o := .lst (vs ++ vs2)) sub nq
        exact k _ _ _ xx (.lst upd_same (by rw [List.length_append]; exact hz) ((r.append r2).mono xx.s))
      · cases e
    | _ => cases e
  | _ => cases e⟩
theorem o_catS : Op2 X (binaryOp .Add) catS := ⟨_, op_add_str, fun S H x y a b c Q sub ha hb e k => by
  cases ha with
  | str i =>
    cases hb with
    | str j =>
      have e : (if i.length + j.length ≤ sizeLine then some (D.str (i ++ j)) else none) = some c := e
      split at e
      · rename_i hz
        cases e
        exact ⟨i, j, rfl, rfl, hz, k _ S H (Ext.refl sub) (.str _)⟩
      · cases e
    | _ => cases e
  | _ => cases e⟩
/-- +, whatever is added -/
def addD : D → D → Option D
  | .int i, .int j => some (.int (i + j))
  | .tup xs, .tup ys => if xs.length + ys.length ≤ sizeLine then some (.tup (xs ++ ys)) else none
  | .lst xs, .lst ys => if xs.length + ys.length ≤ sizeLine then some (.lst (xs ++ ys)) else none
  | .str x, .str y => if x.length + y.length ≤ sizeLine then some (.str (x ++ y)) else none
  | _, _ => none
theorem Op2.imp {f : Value → Value → Sem Value} {g g' : D → D → Option D} (h : Op2 X f g) (hg : ∀ a b c, g' a b = some c → g a b = some c) : Op2 X f g' := by
  obtain ⟨r, o, k⟩ := h
  exact ⟨r, o, fun S H x y a b c Q sub ha hb e q => k S H x y a b c Q sub ha hb (hg a b c e) q⟩
theorem o_add : Op2 X (binaryOp .Add) addD := (((o_addI.or o_catT).or o_catL).or o_catS).imp fun a b c h => by
  cases a <;> cases b <;> first
    | exact (nomatch (show (none : Option D) = some c from h))
    | exact h
    | (simp only [addD] at h; simp only [addI, iop2, always, catT, catL, catS]; split at h <;> simp_all)
/-- a list times a number, a tuple times a number -/
def repD : D → D → Option D
  | .int i, .int j => if bits2 i j = true then some (.int (i * j)) else none
  | .lst xs, .int k => if -9223372036854775808 ≤ k ∧ k < 9223372036854775808 ∧ xs.length * k.toNat ≤ sizeLine then some (.lst (List.replicate k.toNat xs).flatten) else none
  | .tup xs, .int k => if xs ≠ [] ∧ 2 ≤ k ∧ k ≤ 1000 ∧ xs.length ≤ 1000 then some (.tup (List.replicate k.toNat xs).flatten) else none
  | _, _ => none
theorem AtL.rep {K : PySem.W.Frag} {vs : List V} {ds : List D} (h : AtL K S vs ds) : ∀ k : Nat, AtL K S (List.replicate k vs).flatten (List.replicate k ds).flatten
  | 0 => .nil
  | k + 1 => by
    rw [List.replicate_succ, List.replicate_succ, List.flatten_cons, List.flatten_cons]
    exact h.append (AtL.rep h k)
theorem rep_len {α : Type} (ds : List α) : ∀ k : Nat, (List.replicate k ds).flatten.length = k * ds.length
  | 0 => by simp
  | k + 1 => by rw [List.replicate_succ, List.flatten_cons, List.length_append, rep_len ds k]; rw [Nat.succ_mul]; omega
def repL : D → D → Option D
  | .lst xs, .int k => if -9223372036854775808 ≤ k ∧ k < 9223372036854775808 ∧ xs.length * k.toNat ≤ sizeLine then some (.lst (List.replicate k.toNat xs).flatten) else none
  | _, _ => none
def repT : D → D → Option D
  | .tup xs, .int k => if xs ≠ [] ∧ 2 ≤ k ∧ k ≤ 1000 ∧ xs.length ≤ 1000 then some (.tup (List.replicate k.toNat xs).flatten) else none
  | _, _ => none
theorem o_repL : Op2 X (binaryOp .Mult) repL := ⟨_, op_rep, fun S H x y a b c Q sub ha hb e k => by
  cases ha with
  | @lst p vs xs h z r =>
    cases hb with
    | int j =>
      have e : (if -9223372036854775808 ≤ j ∧ j < 9223372036854775808 ∧ xs.length * j.toNat ≤ sizeLine then some (D.lst (List.replicate j.toNat xs).flatten) else none) = some c := e
      split at e
      · rename_i hz
        cases e
        refine ⟨p, j, vs, rfl, rfl, sub _ _ h, by omega, by omega, by rw [r.length]; exact hz.2.2, fun q nq => ?_⟩
        have xx := Ext.new (O := fun _ => False) (o := .lst (List.replicate j.toNat vs).flatten) sub nq
        exact k _ _ _ xx (.lst upd_same (by rw [rep_len, Nat.mul_comm]; exact hz.2.2) ((r.rep _).mono xx.s))
      · cases e
    | _ => cases e
  | _ => cases e⟩
theorem o_repT : Op2 X (binaryOp .Mult) repT := ⟨_, op_repT, fun S H x y a b c Q sub ha hb e k => by
  cases ha with
  | @tup p vs xs h z r =>
    cases hb with
    | int j =>
      have e : (if xs ≠ [] ∧ 2 ≤ j ∧ j ≤ 1000 ∧ xs.length ≤ 1000 then some (D.tup (List.replicate j.toNat xs).flatten) else none) = some c := e
      split at e
      · rename_i hz
        cases e
        refine ⟨p, j, vs, rfl, rfl, sqT_mono sub h, fun q => ?_, hz.2.1, hz.2.2.1, by rw [r.length]; exact hz.2.2.2, fun q nq => ?_⟩
        · subst q
          cases r
          exact hz.1 rfl
        · have xx := Ext.new (O := fun _ => False) (o := .tup (List.replicate j.toNat vs).flatten) sub nq
          refine k _ _ _ xx (.tup (.inl (.inl upd_same)) ?_ ((r.rep _).mono xx.s))
          rw [rep_len, sizeLine_is]
          have h1 : j.toNat ≤ 1000 := by omega
          have h2 : xs.length ≤ 1000 := hz.2.2.2
          have := Nat.mul_le_mul h1 h2
          omega
      · cases e
    | _ => cases e
  | _ => cases e⟩
theorem o_mul : Op2 X (binaryOp .Mult) repD := ((o_mulI.or o_repL).or o_repT).imp fun a b c h => by
  cases a <;> cases b <;> first
    | exact (nomatch (show (none : Option D) = some c from h))
    | exact h
    | (simp only [repD] at h; simp only [mulI, iop2, repL, repT]; split at h <;> simp_all)
end
end SW

set_option maxRecDepth 100000
/-! SW8: a look (peek), subscripts, slices, built-ins, methods that turn an owned list. -/
namespace SW
open PySem PySem.Spec PyProof.Rows L2

def flatD : D → Bool
  | .non => true
  | .bl _ => true
  | .int _ => true
  | .str _ => true
  | .ty _ => true
  | _ => false
theorem flat_at {K : PySem.W.Frag} {S S' : Hp} {v : V} {d : D} (h : At K S v d) (f : flatD d = true) : At K S' v d := by
  cases h with
  | non => exact .non
  | bl b => exact .bl b
  | int i => exact .int i
  | str x => exact .str x
  | ty n h => exact .ty n h
  | _ => cases f

section
variable {K : PySem.W.Frag} {S S' H H' : Hp} {os : Os} {σ : Sg} {ρ : Rho}
/-- what owned cells hold stands for a while -/
structure Look (S H : Hp) (os : Os) (σ : Sg) (S1 : Hp) : Prop where
  s : Same S S1
  sh : Same S1 H
  out : ∀ a, ¬ Own os σ a → S1 a = S a
  own : ∀ a, Own os σ a → S1 a = H a
theorem freezeAll (r : Rel K S H os σ ρ) : ∃ S1, Look S H os σ S1 ∧ Rel K S1 H [] σ ρ := by
  classical
  have lk : Look S H os σ (fun a => if Own os σ a then H a else S a) := by
    refine ⟨fun a o e => ?_, fun a o e => ?_, fun a z => if_neg z, fun a z => if_pos z⟩
    · have no : ¬ Own os σ a := fun z => by rw [(r.owned z).1] at e; cases e
      show (if Own os σ a then H a else S a) = some o
      rw [if_neg no]; exact e
    · have e : (if Own os σ a then H a else S a) = some o := e
      by_cases z : Own os σ a
      · rw [if_pos z] at e; exact e
      · rw [if_neg z] at e; exact r.sub a o e
  refine ⟨_, lk, ⟨lk.sh, r.len, fun i x y e1 e2 => ?_, fun i j a h1 => by simp [List.getD] at h1⟩⟩
  have q := r.slot i x y e1 e2
  have hf : ([] : Os).getD i false = false := by simp [List.getD]
  rw [hf]
  cases ho : os.getD i false <;> rw [ho] at q <;> cases x <;> cases y <;> simp only [SlotAt] at q ⊢
  · exact q.mono lk.s
  · rename_i v d
    obtain ⟨a, ea, na, q⟩ := q
    subst ea
    have own : Own os σ a := ⟨i, ho, e1⟩
    obtain ⟨o, eh, bd⟩ := q
    exact (bd.mono lk.s).at ((lk.own a own).trans eh)
/-- nothing that the slots own has been touched: they own it still -/
theorem Look.back {S1 : Hp} (lk : Look S H os σ S1) (r : Rel K S H os σ ρ) (x : Ext (Own [] σ) S1 H S' H') : Rel K S H' os σ ρ ∧ Stp os σ S H os σ S H' := by
  have keep : ∀ a o, Own os σ a → H a = some o → H' a = some o := fun a o z e => x.sh a o (x.s a o ((lk.own a z).trans e))
  have sh : Same S H' := fun a o e => x.sh a o (x.s a o (lk.s a o e))
  refine ⟨⟨sh, r.len, fun i v d e1 e2 => ?_, r.sep⟩, ⟨⟨Same.refl _, sh, fun a o e n no => ⟨?_, n⟩, x.there⟩, fun a q => .inl q⟩⟩
  · have q := r.slot i v d e1 e2
    cases ho : os.getD i false <;> rw [ho] at q <;> cases v <;> cases d <;> simp only [SlotAt] at q ⊢
    · exact q
    · rename_i v d
      obtain ⟨a, ea, na, q⟩ := q
      subst ea
      have own : Own os σ a := ⟨i, ho, e1⟩
      refine ⟨a, rfl, na, ?_⟩
      obtain ⟨o, eh, bd⟩ := q
      exact ⟨o, keep a _ own eh, bd⟩
  · exact (x.fr a o e ((lk.out a no).trans n) fun z => own_nil z).1
theorem Look.exc {S1 : Hp} (lk : Look S H os σ S1) (x : Ext (Own [] σ) S1 H S' H') : Ext (Own os σ) S H S' H' :=
  ⟨lk.s.trans x.s, x.sh, fun a o e n no => x.fr a o e ((lk.out a no).trans n) fun z => own_nil z, x.there⟩
end

section
variable {X : Cx} {W : WX} {L : Lc} {os os1 os2 os3 osN : Os} {e e1 e2 : Expr} {f f1 f2 : Rho → Out (D × Rho)} {pos p apos : Pos} {es : List Expr} {g : Rho → Out (List D × Rho)}
def ePeek (f : Rho → Out (D × Rho)) : Rho → Out (D × Rho) := fun ρ => (f ρ).bind fun p => if flatD p.1 = true then .ok (p.1, ρ) else .stuck
def tPeek (f : Rho → Out (Bool × Rho)) : Rho → Out (Bool × Rho) := fun ρ => (f ρ).bind fun p => .ok (p.1, ρ)
/-- an expression that turns nothing and gives a number, a truth, a text: what is owned stays owned -/
theorem ve_peek (h : VE X W [] e f os1 false) (hos : os1 = [] := by rfl) : VE X W os e (ePeek f) os false := by
  subst hos
  obtain ⟨t, p, k⟩ := h
  refine ⟨t, p, fun S σ H ρ Q rel P => ?_⟩
  obtain ⟨S1, lk, rel1⟩ := freezeAll rel
  refine k S1 σ H ρ Q rel1 ?_
  unfold ePeek at P
  cases h : f ρ with
  | exc c fs => rw [h] at P; exact fun S' H' cls dd x q => P S' H' cls dd (lk.exc x) q
  | stuck => rw [h] at P; exact P.elim
  | ok z =>
    obtain ⟨d, ρ'⟩ := z
    rw [h] at P
    have P : Post X W S H os σ os (RV X.K false) Q (if flatD d = true then .ok (d, ρ) else .stuck) := P
    split at P
    · rename_i hf
      intro v S' H' st _ hv
      obtain ⟨rel2, st2⟩ := lk.back rel st.ext
      exact P v S H' st2 rel2 (flat_at (show At X.K S' v d from hv) hf)
    · exact P.elim
theorem vt_peek {c : Expr} {g : Rho → Out (Bool × Rho)} (h : VT X W [] c g os1) (hos : os1 = [] := by rfl) : VT X W os c (tPeek g) os := by
  subst hos
  obtain ⟨t, p, k⟩ := h
  refine ⟨t, p, fun S σ H ρ Q rel P => ?_⟩
  obtain ⟨S1, lk, rel1⟩ := freezeAll rel
  refine k S1 σ H ρ Q rel1 ?_
  unfold tPeek at P
  cases h : g ρ with
  | exc c fs => rw [h] at P; exact fun S' H' cls dd x q => P S' H' cls dd (lk.exc x) q
  | stuck => rw [h] at P; exact P.elim
  | ok z =>
    obtain ⟨d, ρ'⟩ := z
    rw [h] at P
    intro v S' H' st _ hv
    obtain ⟨rel2, st2⟩ := lk.back rel st.ext
    exact P v S H' st2 rel2 hv

/-! ### subscripts -/
def strIx (z : Str) (i : Int) : Option D := if z.length ≤ sizeLine then (atI z.cps.toList i).map fun c => .str ⟨#[c]⟩ else none
def ixD : D → D → Option D
  | .lst ds, .int i => atI ds i
  | .tup ds, .int i => atI ds i
  | .scr ns, .int i => (atI ns i).map .int
  | .str z, .int i => strIx z i
  | _, _ => none
theorem atI_at {K : PySem.W.Frag} {S : Hp} {vs : List V} {ds : List D} {i : Int} {d : D} (r : AtL K S vs ds) (h : atI ds i = some d) : ∃ v, atI vs i = some v ∧ At K S v d := by
  unfold atI at h ⊢
  rw [r.length]
  cases e : ixN ds.length i with
  | none => rw [e] at h; cases h
  | some j => rw [e] at h; exact r.get h
theorem atI_map {α β : Type} {f : α → β} {xs : List α} {i : Int} : atI (xs.map f) i = (atI xs i).map f := by
  unfold atI
  rw [List.length_map]
  cases ixN xs.length i with
  | none => rfl
  | some j => simp
theorem ix_read {K : PySem.W.Frag} {S H : Hp} {x y : V} {a b c : D} {Q : VK} (sub : Same S H) (ha : At K S x a) (hb : At K S y b) (e : ixD a b = some c) (k : ∀ v, At K S v c → Q v H) : rIx K x y H Q := by
  cases hb with
  | int i =>
    cases ha with
    | @lst p vs ds h z r =>
      obtain ⟨v, ev, hv⟩ := atI_at r (show atI ds i = some c from e)
      exact .inl ⟨p, vs, i, v, rfl, rfl, .of (sub _ _ h), ev, k v hv⟩
    | @tup p vs ds h z r =>
      obtain ⟨v, ev, hv⟩ := atI_at r (show atI ds i = some c from e)
      exact .inr (.inl ⟨p, vs, i, v, rfl, rfl, sqT_mono sub h, ev, k v hv⟩)
    | @scr p ns h z =>
      have e : (atI ns i).map D.int = some c := e
      cases en : atI ns i with
      | none => rw [en] at e; cases e
      | some n =>
        rw [en] at e
        cases e
        exact .inl ⟨p, _, i, .int n, rfl, rfl, sub.seq h, by rw [atI_map, en]; rfl, k _ (.int n)⟩
    | str z =>
      have e : (if z.length ≤ sizeLine then (atI z.cps.toList i).map fun c => D.str ⟨#[c]⟩ else none) = some c := e
      split at e
      · rename_i hz
        cases en : atI z.cps.toList i with
        | none => rw [en] at e; cases e
        | some n =>
          rw [en] at e
          cases e
          exact .inr (.inr ⟨z, i, n, rfl, rfl, hz, en, k _ (.str _)⟩)
      · cases e
    | _ => cases e
  | _ => cases a <;> cases e
theorem ve_ix (ha : VE X W os e1 f1 os1 false) (hb : VE X W os1 e2 f2 os2 false) (hs : PlainIx e2 := by exact fun _ _ => rfl) : VE X W os (.Subscript e1 e2 pos) (eOp2 ixD f1 f2) os2 false := by
  obtain ⟨ta, pa, ka⟩ := ha
  obtain ⟨tb, pb, kb⟩ := hb
  refine ⟨_, pe_ix ix_seq pa pb hs, fun S σ H ρ Q rel P => ?_⟩
  refine ka S σ H ρ _ rel (Post.seq P (fun z => z) (fun c fs p => p) fun d ρ1 v S1 H1 st1 rel1 q1 P1 => ?_)
  have P1 := P1.step RV.ok st1
  refine kb S1 σ H1 ρ1 _ rel1 (Post.seq P1 (fun z => z) (fun c fs p => p) fun d2 ρ2 v2 S2 H2 st2 rel2 q2 P2 => ?_)
  obtain ⟨c, hc, k⟩ := post_of (P2.step RV.ok st2) rel2
  exact ix_read rel2.sub (At.mono st2.ext.s q1) q2 hc fun v hv => k v S2 H2 (Ext.refl rel2.sub) hv
/-- x[e], x an owning name -/
def eIxO (i : Nat) (f : Rho → Out (D × Rho)) : Rho → Out (D × Rho) := fun ρ => (f ρ).bind fun p => match p.2.getD i none with
  | some d => (Out.of (ixD d p.1)).bind fun c => .ok (c, p.2)
  | none => .stuck
theorem getD_some {ρ : Rho} {i : Nat} {d : D} (h : ρ.getD i none = some d) : ρ[i]? = some (some d) := by
  cases q : ρ[i]? with
  | none => simp [List.getD, q] at h
  | some y => simp [List.getD, q] at h; rw [h]
theorem ve_ixO (i : Nat) {x : Str} (hb : VE X W os e2 f2 os1 false) (ho : os.getD i false = true := by rfl) (ho1 : os1.getD i false = true := by rfl) (hN : X.N[i]? = some x := by rfl) (hv : Vis X.env.scope x := by first | exact Or.inl rfl | exact Or.inr (Or.inl rfl) | exact Or.inr (Or.inr rfl))
    (hs : PlainIx e2 := by exact fun _ _ => rfl) (hd : (x == ("__debug__" : Str)) = false := by decide) (hcd : (x == ("__classdict__" : Str)) = false := by decide) : VE X W os (.Subscript (.Name x p) e2 pos) (fun ρ => match ρ.getD i none with | some _ => eIxO i f2 ρ | none => .stuck) os1 false := by
  obtain ⟨tb, pb, kb⟩ := hb
  refine ⟨_, pe_ix ix_seq (pe_var hN hv hd hcd) pb hs, fun S σ H ρ Q rel P => ?_⟩
  cases h0 : ρ.getD i none with
  | none => dsimp only at P; rw [h0] at P; exact P.elim
  | some d0 =>
    dsimp only at P; rw [h0] at P
    obtain ⟨v, ev, _⟩ := rel.own (getD_some h0) ho
    refine ⟨v, ev, ?_⟩
    refine kb S σ H ρ _ rel (Post.seq P (fun z => z) (fun c fs p => p) fun d2 ρ2 v2 S2 H2 st2 rel2 q2 P2 => ?_)
    have P2 := P2.step RV.ok st2
    dsimp only at P2
    cases h1 : ρ2.getD i none with
    | none => rw [h1] at P2; exact P2.elim
    | some d1 =>
      rw [h1] at P2
      obtain ⟨v', ev', hown⟩ := rel2.own (getD_some h1) ho1
      rw [ev] at ev'
      cases ev'
      obtain ⟨c, hc, k⟩ := post_of P2 rel2
      obtain ⟨a, ea, na, q⟩ := hown
      subst ea
      have q2 : At X.K S2 v2 d2 := q2
      obtain ⟨o, eh, bd⟩ := q
      cases bd with
      | @lst vs ds z rl =>
        cases q2 with
        | int j =>
          obtain ⟨w, ew, hw⟩ := atI_at rl (show atI ds j = some c from hc)
          exact .inl ⟨a, vs, j, w, rfl, rfl, .of eh, ew, k w S2 H2 (Ext.refl rel2.sub) hw⟩
        | _ => cases hc
      | _ => cases q2 <;> cases hc

/-! ### slices -/
def VO (X : Cx) (W : WX) (os : Os) (e : Option Expr) (f : Rho → Out (Option Int × Rho)) (os' : Os) : Prop :=
  ∃ t, PO X e t ∧ ∀ S σ H ρ Q, Rel X.K S H os σ ρ → Post X W S H os σ os' (fun _ _ _ b d => b = d) Q (f ρ) → t σ H Q
def oNone : Rho → Out (Option Int × Rho) := fun ρ => .ok (none, ρ)
def oSome (f : Rho → Out (D × Rho)) : Rho → Out (Option Int × Rho) := fun ρ => (f ρ).bind fun p => match p.1 with
  | .int i => .ok (some i, p.2)
  | _ => .stuck
theorem rid_ok {α : Type} : RR.Ok (fun _ _ _ (b d : α) => b = d) := fun _ _ _ _ _ _ _ q => q
theorem vo_none : VO X W os none oNone os := ⟨_, po_none, fun S σ H ρ Q rel P => P.fin (os' := os) rel rfl⟩
theorem vo_some (h : VE X W os e f os1 false) : VO X W os (some e) (oSome f) os1 := by
  obtain ⟨t, p, k⟩ := h
  refine ⟨_, po_some p, fun S σ H ρ Q rel P => ?_⟩
  refine k S σ H ρ _ rel (Post.seq P (fun z => z) (fun c fs p => p) fun d ρ1 v S1 H1 st1 rel1 q1 P1 => ?_)
  cases q1 with
  | int i => exact ⟨i, rfl, (P1.step rid_ok st1).fin (os' := os1) rel1 rfl⟩
  | _ => exact P1.elim
def cutD (xs : List D) (lo hi : Option Int) : List D := (xs.drop (HT.sIx xs.length 0 lo)).take (HT.sIx xs.length xs.length hi - HT.sIx xs.length 0 lo)
theorem AtL.cut {K : PySem.W.Frag} {S : Hp} {vs : List V} {ds : List D} (r : AtL K S vs ds) (lo hi : Option Int) : AtL K S (cutV vs lo hi) (cutD ds lo hi) := by
  unfold cutV cutD
  rw [r.length]
  exact (r.drop _).take _
theorem cutD_len (xs : List D) (lo hi : Option Int) : (cutD xs lo hi).length ≤ xs.length := by
  unfold cutD
  rw [List.length_take, List.length_drop]
  omega
theorem cut_whole {α : Type} (xs : List α) {lo hi : Option Int} (h : HT.sIx xs.length 0 lo = 0 ∧ HT.sIx xs.length xs.length hi = xs.length) : (xs.drop (HT.sIx xs.length 0 lo)).take (HT.sIx xs.length xs.length hi - HT.sIx xs.length 0 lo) = xs := by
  rw [h.1, h.2]
  simp
def sliceD : D → Option Int → Option Int → Option D
  | .lst xs, lo, hi => some (.lst (cutD xs lo hi))
  | .tup xs, lo, hi => some (.tup (cutD xs lo hi))
  | .scr ns, lo, hi => some (.lst (cutD (ns.map .int) lo hi))
  | _, _, _ => none
def eSlice (f : Rho → Out (D × Rho)) (fl fh : Rho → Out (Option Int × Rho)) : Rho → Out (D × Rho) := fun ρ =>
  (f ρ).bind fun p => (fl p.2).bind fun l => (fh l.2).bind fun h => (Out.of (sliceD p.1 l.1 h.1)).bind fun c => .ok (c, h.2)
theorem ve_slice {lo hi : Option Expr} {fl fh : Rho → Out (Option Int × Rho)} {p2 : Pos} (ha : VE X W os e f os1 false) (hl : VO X W os1 lo fl os2) (hh : VO X W os2 hi fh os3) : VE X W os (.Subscript e (.Slice lo hi none p2) pos) (eSlice f fl fh) os3 false := by
  obtain ⟨ta, pa, ka⟩ := ha
  obtain ⟨tl, pl, kl⟩ := hl
  obtain ⟨th, ph, kh⟩ := hh
  refine ⟨_, pe_slice (sl_list.or sl_tupA) pa pl ph, fun S σ H ρ Q rel P => ?_⟩
  refine ka S σ H ρ _ rel (Post.seq P (fun z => z) (fun c fs p => p) fun d ρ1 v S1 H1 st1 rel1 q1 P1 => ?_)
  have P1 := P1.step RV.ok st1
  refine kl S1 σ H1 ρ1 _ rel1 (Post.seq P1 (fun z => z) (fun c fs p => p) fun l ρ2 v2 S2 H2 st2 rel2 q2 P2 => ?_)
  have P2 := P2.step RV.ok st2
  refine kh S2 σ H2 ρ2 _ rel2 (Post.seq P2 (fun z => z) (fun c fs p => p) fun h ρ3 v3 S3 H3 st3 rel3 q3 P3 => ?_)
  cases q2; cases q3
  obtain ⟨c, hc, k⟩ := post_of (P3.step RV.ok st3) rel3
  have q1 : At X.K S3 v d := (At.mono st2.ext.s q1).mono st3.ext.s
  cases q1 with
  | @lst a vs ds hs z r =>
    cases hc
    refine .inl ⟨a, vs, rfl, .of (rel3.sub _ _ hs), fun q nq => ?_⟩
    have xx := Ext.new (O := fun _ => False) (o := .lst (cutV vs l h)) rel3.sub nq
    exact k _ _ _ xx (.lst upd_same (Nat.le_trans (cutD_len _ _ _) z) ((r.cut l h).mono xx.s))
  | @scr a ns hs z =>
    cases hc
    refine .inl ⟨a, _, rfl, rel3.sub.seq hs, fun q nq => ?_⟩
    have xx := Ext.new (O := fun _ => False) (o := .lst (cutV (ns.map V.int) l h)) rel3.sub nq
    exact k _ _ _ xx (.lst upd_same (Nat.le_trans (cutD_len _ _ _) (by rw [List.length_map]; exact z)) (((AtL.ints ns).cut l h).mono xx.s))
  | @tup a vs ds hs z r =>
    cases hc
    have hl := r.length
    refine .inr ⟨a, vs, rfl, sqT_mono rel3.sub hs, fun hw => ?_, fun hw q nq => ?_⟩
    · refine k _ S3 H3 (Ext.refl rel3.sub) ?_
      have e : cutD ds l h = ds := cut_whole ds (by rw [← hl]; exact hw)
      rw [e]
      exact .tup hs z r
    · have xx := Ext.new (O := fun _ => False) (o := .tup (cutV vs l h)) rel3.sub nq
      exact k _ _ _ xx (.tup (.inl (.inl upd_same)) (Nat.le_trans (cutD_len _ _ _) z) ((r.cut l h).mono xx.s))
  | _ => cases hc

/-! ### built-ins -/
def CallD (X : Cx) (f : Value) (h : List D → Option D) : Prop :=
  ∃ r, CallR X f r ∧ ∀ S H vs ds c Q, Same S H → AtL X.K S vs ds → h ds = some c → (∀ v S' H', Ext (fun _ => False) S H S' H' → At X.K S' v c → Q v H') → r vs H Q
theorem CallD.or {fv : Value} {h1 h2 : List D → Option D} (a : CallD X fv h1) (b : CallD X fv h2) : CallD X fv (fun ds => match h1 ds with | some c => some c | none => h2 ds) := by
  obtain ⟨r1, o1, k1⟩ := a
  obtain ⟨r2, o2, k2⟩ := b
  refine ⟨fun vs H Q => r1 vs H Q ∨ r2 vs H Q, fun pins s σ H xs us Q I r q => q.elim (o1 pins s σ H xs us Q I r) (o2 pins s σ H xs us Q I r), fun S H vs ds c Q sub ha e k => ?_⟩
  dsimp only at e
  cases e1 : h1 ds with
  | some c1 => rw [e1] at e; cases e; exact .inl (k1 S H vs ds _ Q sub ha e1 k)
  | none => rw [e1] at e; exact .inr (k2 S H vs ds c Q sub ha e k)
theorem ve_callB {x : Str} {id : String} {h : List D → Option D} (hc : CallD X (.builtin id) h) (ha : VA X W os (e :: es) g os1) (hm : X.mg x = none) (hv : bootBuiltins x = some (.builtin id)) (hg : Gl X x := by rfl) (hn : x ≠ "__name__" := by decide) (hdb : (x == ("__debug__" : Str)) = false := by decide)
    (he : starEach (e :: es) X.env = (false, eval e X.env) :: starEach es X.env := by rfl) (hpl : (backTo pos (starEach es X.env)).any (·.1) = false := by rfl) : VE X W os (.Call (.Name x p) (e :: es) [] pos) (eArg h g) os1 false := by
  obtain ⟨ta, pa, ka⟩ := ha
  obtain ⟨r, pc, kc⟩ := hc
  refine ⟨_, pe_callB pc hg hm hv pa hn hdb he hpl, fun S σ H ρ Q rel P => ?_⟩
  refine ka S σ H ρ _ rel (Post.seq P (fun z => z) (fun c fs p => p) fun ds ρ1 vs S1 H1 st1 rel1 q1 P1 => ?_)
  obtain ⟨c, hcc, k⟩ := post_of (P1.step RV.ok st1) rel1
  exact kc S1 H1 vs ds c _ rel1.sub q1.1 hcc k
theorem ve_callTy {x : Str} {T : String} {h : List D → Option D} (hc : CallD X (.type T) h) (ha : VA X W os (e :: es) g os1) (hm : X.mg x = none) (hv : bootBuiltins x = some (.type T)) (hg : Gl X x := by rfl) (hn : x ≠ "__name__" := by decide) (hdb : (x == ("__debug__" : Str)) = false := by decide)
    (he : starEach (e :: es) X.env = (false, eval e X.env) :: starEach es X.env := by rfl) (hpl : (backTo pos (starEach es X.env)).any (·.1) = false := by rfl) : VE X W os (.Call (.Name x p) (e :: es) [] pos) (eArg h g) os1 false := by
  obtain ⟨ta, pa, ka⟩ := ha
  obtain ⟨r, pc, kc⟩ := hc
  refine ⟨_, pe_callTy pc hg hm hv pa hn hdb he hpl, fun S σ H ρ Q rel P => ?_⟩
  refine ka S σ H ρ _ rel (Post.seq P (fun z => z) (fun c fs p => p) fun ds ρ1 vs S1 H1 st1 rel1 q1 P1 => ?_)
  obtain ⟨c, hcc, k⟩ := post_of (P1.step RV.ok st1) rel1
  exact kc S1 H1 vs ds c _ rel1.sub q1.1 hcc k
/-- a built-in class as a value -/
theorem ve_ty {x : Str} {T : Tc} (hm : X.mg x = none) (hv : bootBuiltins x = some (.type T.nm)) (hg : Gl X x := by rfl) (hn : x ≠ "__name__" := by decide) (hdb : (x == ("__debug__" : Str)) = false := by decide) : VE X W os (.Name x p) (eCon (.ty T)) os false :=
  ⟨_, pe_bltn (v := .ty T.nm) hg hm hv rfl hn hdb, fun S σ H ρ Q rel P => P.fin (os' := os) rel (.ty T rfl)⟩

def lenD : List D → Option D
  | [.lst ds] => some (.int ds.length)
  | [.tup ds] => some (.int ds.length)
  | [.scr ns] => some (.int ns.length)
  | [.str x] => if x.length ≤ sizeLine then some (.int x.length) else none
  | _ => none
theorem one_arg {α : Type} {x : α} : [x] = [x] := rfl
theorem c_len : CallD X (.builtin "len") lenD := ⟨_, call_len, fun S H vs ds c Q sub ha e k => by
  match ds, vs, ha, e with
  | [d], [v], .cons h .nil, e =>
    cases h with
    | @lst a ws es h z r =>
      cases e
      exact ⟨_, _, rfl, .inl ⟨ws, .of (sub _ _ h), rfl⟩, k _ S H (Ext.refl sub) (by rw [r.length]; exact .int _)⟩
    | @tup a ws es h z r =>
      cases e
      exact ⟨_, _, rfl, .inr ⟨ws, sqT_mono sub h, rfl⟩, k _ S H (Ext.refl sub) (by rw [r.length]; exact .int _)⟩
    | @scr a ns h z =>
      cases e
      exact ⟨_, _, rfl, .inl ⟨_, sub.seq h, rfl⟩, k _ S H (Ext.refl sub) (by rw [List.length_map]; exact .int _)⟩
    | str x =>
      have e : (if x.length ≤ sizeLine then some (D.int x.length) else none) = some c := e
      split at e
      · rename_i hz
        cases e
        exact ⟨_, x.length, rfl, ⟨hz, rfl⟩, k _ S H (Ext.refl sub) (.int _)⟩
      · cases e
    | _ => cases e
  | [], _, _, e => cases e
  | _ :: _ :: _, _, _, e => exact absurd e (by simp [lenD])⟩
/-- a datum's class; NoneType is none -/
def tyOf : D → Option Tc
  | .non => none
  | .bl _ => some .bool
  | .int _ => some .int
  | .str _ => some .str
  | .tup _ => some .tuple
  | .lst _ => some .list
  | .scr _ => some .list
  | .dct _ => some .dict
  | .ty _ => none
  | .ins _ _ => none
  | .exc _ _ => none
/-- what isinstance looks at -/
def isiOk : D → Bool
  | .ty _ => false
  | .dct _ => false
  | .ins _ _ => false
  | .exc _ _ => false
  | _ => true
def Tc.eq : Tc → Tc → Bool
  | .int, .int => true
  | .bool, .bool => true
  | .tuple, .tuple => true
  | .list, .list => true
  | .str, .str => true
  | .dict, .dict => true
  | .bool, .int => true
  | _, _ => false
def isTy : Option Tc → Tc → Bool
  | none, _ => false
  | some a, b => Tc.eq a b
def isiD : List D → Option D
  | [d, .ty n] => if isiOk d = true then some (.bl (isTy (tyOf d) n)) else none
  | _ => none
def nmO : Option Tc → String
  | none => "NoneType"
  | some t => t.nm
theorem kit_at (a : Option Tc) (b : Tc) : kitB (nmO a) b.nm = some (isTy a b) := by
  cases a with
  | none => cases b <;> decide +kernel
  | some a => cases a <;> cases b <;> decide +kernel
theorem tyx_of {K : PySem.W.Frag} {S H : Hp} {v : V} {d : D} (sub : Same S H) (h : At K S v d) (hd : isiOk d = true) : TyX K H v (.type (nmO (tyOf d))) := by
  cases h with
  | non => exact .base .non
  | bl b => exact .base (.bl b)
  | int i => exact .base (.int i)
  | str x => exact .base (.str x)
  | tup h z r =>
    rcases h with (h | ⟨o, h⟩) | ⟨o, its, n, hk, hc, _⟩
    · exact .base (.tup (sub _ _ h))
    · exact .fTuple (sub _ _ h)
    · exact .kTuple hk hc
  | lst h z r => exact .base (.lst (sub _ _ h))
  | dct h k z r => cases hd
  | ins _ _ _ _ _ => cases hd
  | exc0 _ _ => cases hd
  | exc1 _ _ _ _ => cases hd
  | scr h z =>
    rcases h with (h | ⟨o, h⟩) | ⟨o, its, n, hk, hc, _⟩
    · exact .base (.lst (sub _ _ h))
    · exact .base (.frz (sub _ _ h))
    · exact .kList hk hc
  | ty n _ => cases hd
theorem isiD_some {ds : List D} {c : D} (h : isiD ds = some c) : ∃ d n, ds = [d, .ty n] ∧ isiOk d = true ∧ c = .bl (isTy (tyOf d) n) := by
  unfold isiD at h
  split at h
  · rename_i d n
    split at h
    · rename_i hd
      cases h
      exact ⟨d, n, rfl, hd, rfl⟩
    · cases h
  · cases h
theorem c_isi : CallD X (.builtin "isinstance") isiD := ⟨_, call_isi, fun S H vs ds c Q sub ha e k => by
  obtain ⟨d, n, rfl, hd, rfl⟩ := isiD_some e
  match vs, ha with
  | [v, _], .cons h (.cons (.ty _ hn) .nil) =>
    subst hn
    exact ⟨v, .ty n.nm, _, _, isTy (tyOf d) n, rfl, .ty n.nm, tyx_of sub h hd, kit_ty (kit_at _ _), k _ S H (Ext.refl sub) (.bl _)⟩⟩
def absD : List D → Option D
  | [.int i] => some (.int (if i < 0 then -i else i))
  | _ => none
theorem c_abs : CallD X (.builtin "abs") absD := ⟨_, call_abs, fun S H vs ds c Q sub ha e k => by
  match ds, vs, ha, e with
  | [.int i], [_], .cons (.int _) .nil, e => cases e; exact ⟨i, rfl, k _ S H (Ext.refl sub) (.int _)⟩
  | [], _, _, e => cases e
  | _ :: _ :: _, _, _, e => exact absurd e (by simp [absD])
  | [.non], _, _, e => cases e
  | [.bl _], _, _, e => cases e
  | [.str _], _, _, e => cases e
  | [.tup _], _, _, e => cases e
  | [.lst _], _, _, e => cases e
  | [.dct _], _, _, e => cases e
  | [.scr _], _, _, e => cases e
  | [.ty _], _, _, e => cases e
  | [.ins _ _], _, _, e => cases e
  | [.exc _ _], _, _, e => cases e⟩
def intD : List D → Option D
  | [.int i] => some (.int i)
  | [.bl b] => some (.int (if b then 1 else 0))
  | _ => none
theorem c_int : CallD X (.type "int") intD := ⟨_, call_int1, fun S H vs ds c Q sub ha e k => by
  match ds, vs, ha, e with
  | [.int i], [_], .cons (.int _) .nil, e => cases e; exact .inl ⟨i, rfl, k _ S H (Ext.refl sub) (.int _)⟩
  | [.bl i], [_], .cons (.bl _) .nil, e => cases e; exact .inr ⟨i, rfl, k _ S H (Ext.refl sub) (.int _)⟩
  | [], _, _, e => cases e
  | _ :: _ :: _, _, _, e => exact absurd e (by simp [intD])
  | [.non], _, _, e => cases e
  | [.str _], _, _, e => cases e
  | [.tup _], _, _, e => cases e
  | [.lst _], _, _, e => cases e
  | [.dct _], _, _, e => cases e
  | [.scr _], _, _, e => cases e
  | [.ty _], _, _, e => cases e
  | [.ins _ _], _, _, e => cases e
  | [.exc _ _], _, _, e => cases e⟩
def mm2 (mx : Bool) : List D → Option D
  | [.int i, .int j] => some (.int (if mx = true then (if j > i then j else i) else (if j < i then j else i)))
  | _ => none
theorem mm2_two {mx : Bool} {ds : List D} {c : D} (h : mm2 mx ds = some c) : ∃ i j, ds = [.int i, .int j] ∧ c = .int (if mx = true then (if j > i then j else i) else (if j < i then j else i)) := by
  unfold mm2 at h
  split at h
  · cases h; exact ⟨_, _, rfl, rfl⟩
  · cases h
theorem c_max2 (hc : X.calm = true) : CallD X (.builtin "max") (mm2 true) := ⟨_, call_max2 hc, fun S H vs ds c Q sub ha e k => by
  obtain ⟨i, j, rfl, rfl⟩ := mm2_two e
  match vs, ha with
  | [_, _], .cons (.int _) (.cons (.int _) .nil) => exact ⟨i, j, rfl, k _ S H (Ext.refl sub) (.int _)⟩⟩
theorem c_min2 (hc : X.calm = true) : CallD X (.builtin "min") (mm2 false) := ⟨_, call_min2 hc, fun S H vs ds c Q sub ha e k => by
  obtain ⟨i, j, rfl, rfl⟩ := mm2_two e
  match vs, ha with
  | [_, _], .cons (.int _) (.cons (.int _) .nil) => exact ⟨i, j, rfl, k _ S H (Ext.refl sub) (.int _)⟩⟩
/-- a list of whole numbers -/
def intsOf : List D → Option (List Int)
  | [] => some []
  | .int i :: ds => (intsOf ds).map (i :: ·)
  | _ => none
theorem intsOf_map {K : PySem.W.Frag} {S : Hp} : ∀ {vs : List V} {ds : List D} {ns : List Int}, AtL K S vs ds → intsOf ds = some ns → vs = ns.map V.int
  | _, _, _, .nil, e => by cases e; rfl
  | _, .int i :: ds, _, .cons (.int _) r, e => by
    unfold intsOf at e
    cases q : intsOf ds with
    | none => rw [q] at e; cases e
    | some ms => rw [q] at e; cases e; rw [intsOf_map r q]; rfl
  | _, .non :: _, _, .cons _ _, e => by cases e
  | _, .bl _ :: _, _, .cons _ _, e => by cases e
  | _, .str _ :: _, _, .cons _ _, e => by cases e
  | _, .tup _ :: _, _, .cons _ _, e => by cases e
  | _, .lst _ :: _, _, .cons _ _, e => by cases e
  | _, .dct _ :: _, _, .cons _ _, e => by cases e
  | _, .scr _ :: _, _, .cons _ _, e => by cases e
  | _, .ty _ :: _, _, .cons _ _, e => by cases e
  | _, .ins _ _ :: _, _, .cons _ _, e => by cases e
  | _, .exc _ _ :: _, _, .cons _ _, e => by cases e
def listMax : List Int → Int
  | [] => 0
  | [x] => x
  | x :: y :: r => max x (listMax (y :: r))
def listMin : List Int → Int
  | [] => 0
  | [x] => x
  | x :: y :: r => min x (listMin (y :: r))
theorem listMax_mem : ∀ {ns : List Int}, ns ≠ [] → listMax ns ∈ ns ∧ ∀ y ∈ ns, y ≤ listMax ns
  | [], h => (h rfl).elim
  | [x], _ => by simp [listMax]
  | x :: y :: r, _ => by
    obtain ⟨h1, h2⟩ := listMax_mem (ns := y :: r) (by simp)
    unfold listMax
    refine ⟨?_, fun z hz => ?_⟩
    · by_cases h : x ≤ listMax (y :: r)
      · rw [Int.max_eq_right h]; exact List.mem_cons_of_mem _ h1
      · rw [Int.max_eq_left (by omega)]; exact List.mem_cons_self
    · rcases List.mem_cons.mp hz with rfl | hz
      · exact Int.le_max_left _ _
      · exact Int.le_trans (h2 z hz) (Int.le_max_right _ _)
theorem listMin_mem : ∀ {ns : List Int}, ns ≠ [] → listMin ns ∈ ns ∧ ∀ y ∈ ns, listMin ns ≤ y
  | [], h => (h rfl).elim
  | [x], _ => by simp [listMin]
  | x :: y :: r, _ => by
    obtain ⟨h1, h2⟩ := listMin_mem (ns := y :: r) (by simp)
    unfold listMin
    refine ⟨?_, fun z hz => ?_⟩
    · by_cases h : x ≤ listMin (y :: r)
      · rw [Int.min_eq_left h]; exact List.mem_cons_self
      · rw [Int.min_eq_right (by omega)]; exact List.mem_cons_of_mem _ h1
    · rcases List.mem_cons.mp hz with rfl | hz
      · exact Int.min_le_left _ _
      · exact Int.le_trans (Int.min_le_right _ _) (h2 z hz)
def onInts (p : List Int → Bool) (h : List Int → D) : List D → Option D
  | [.lst ds] => match intsOf ds with
    | some ns => if p ns = true then some (h ns) else none
    | none => none
  | _ => none
theorem onInts_some {p : List Int → Bool} {h : List Int → D} {K : PySem.W.Frag} {S H : Hp} {vs : List V} {ds : List D} {c : D} (sub : Same S H) (ha : AtL K S vs ds) (e : onInts p h ds = some c) : ∃ a ns, vs = [.ref a] ∧ SqL K H a (ns.map V.int) ∧ p ns = true ∧ c = h ns := by
  unfold onInts at e
  split at e
  · rename_i ds'
    match vs, ha with
    | [_], .cons (.lst (a := a) (vs := ws) hs z r) .nil =>
      cases q : intsOf ds' with
      | none => rw [q] at e; cases e
      | some ns =>
        rw [q] at e
        dsimp only at e
        split at e
        · rename_i hp
          cases e
          exact ⟨a, ns, rfl, by rw [← intsOf_map r q]; exact .of (sub _ _ hs), hp, rfl⟩
        · cases e
  · cases e
def maxD := onInts (fun ns => !ns.isEmpty) fun ns => .int (listMax ns)
def minD := onInts (fun ns => !ns.isEmpty) fun ns => .int (listMin ns)
def sumD := onInts (fun _ => true) fun ns => .int ns.sum
theorem ne_of_isEmpty {ns : List Int} (h : (!ns.isEmpty) = true) : ns ≠ [] := fun z => by subst z; cases h
theorem c_max (hc : X.calm = true) : CallD X (.builtin "max") maxD := ⟨_, cr_max hc, fun S H vs ds c Q sub ha e k => by
  obtain ⟨a, ns, rfl, hs, hp, rfl⟩ := onInts_some sub ha e
  have hn := ne_of_isEmpty hp
  refine ⟨a, ns, rfl, hs, List.length_pos_iff.mpr hn, fun m hm hy => ?_⟩
  obtain ⟨h1, h2⟩ := listMax_mem hn
  have em : m = listMax ns := Int.le_antisymm (h2 m hm) (hy _ h1)
  rw [em]
  exact k _ S H (Ext.refl sub) (.int _)⟩
theorem c_min (hc : X.calm = true) : CallD X (.builtin "min") minD := ⟨_, cr_min hc, fun S H vs ds c Q sub ha e k => by
  obtain ⟨a, ns, rfl, hs, hp, rfl⟩ := onInts_some sub ha e
  have hn := ne_of_isEmpty hp
  refine ⟨a, ns, rfl, hs, List.length_pos_iff.mpr hn, fun m hm hy => ?_⟩
  obtain ⟨h1, h2⟩ := listMin_mem hn
  have em : m = listMin ns := Int.le_antisymm (hy _ h1) (h2 m hm)
  rw [em]
  exact k _ S H (Ext.refl sub) (.int _)⟩
theorem c_sum (hc : X.calm = true) : CallD X (.builtin "sum") sumD := ⟨_, cr_sum hc, fun S H vs ds c Q sub ha e k => by
  obtain ⟨a, ns, rfl, hs, hp, rfl⟩ := onInts_some sub ha e
  exact ⟨a, ns, rfl, hs, k _ S H (Ext.refl sub) (.int _)⟩⟩
def maxA : List D → Option D := fun ds => match maxD ds with | some c => some c | none => mm2 true ds
def minA : List D → Option D := fun ds => match minD ds with | some c => some c | none => mm2 false ds
theorem c_maxA (hc : X.calm = true) : CallD X (.builtin "max") maxA := (c_max hc).or (c_max2 hc)
theorem c_minA (hc : X.calm = true) : CallD X (.builtin "min") minA := (c_min hc).or (c_min2 hc)
/-- tuple(..) -/
def tupleD : List D → Option D
  | [.lst ds] => some (.tup ds)
  | [.tup ds] => some (.tup ds)
  | _ => none
theorem c_tuple : CallD X (.type "tuple") tupleD := ⟨_, call_tuple_of, fun S H vs ds c Q sub ha e k => by
  unfold tupleD at e
  split at e
  · match vs, ha with
    | [_], .cons (.lst (a := a) (vs := ws) hs z r) .nil =>
      cases e
      refine ⟨a, ws, rfl, .inl ⟨.of (sub _ _ hs), fun l nl => ?_⟩⟩
      have xx := Ext.new (O := fun _ => False) (o := .tup ws) sub nl
      exact k _ _ _ xx (.tup (.inl (.inl upd_same)) z (r.mono xx.s))
  · match vs, ha with
    | [_], .cons (.tup (a := a) (vs := ws) hs z r) .nil =>
      cases e
      exact ⟨a, ws, rfl, .inr ⟨sqT_mono sub hs, k _ S H (Ext.refl sub) (.tup hs z r)⟩⟩
  · cases e⟩
end
end SW

set_option maxRecDepth 100000
/-! SW9: list(..), stores into an owned list, methods that turn an owned list. -/
namespace SW
open PySem PySem.Spec PyProof.Rows L2
section
variable {X : Cx} {W : WX} {L : Lc} {os os1 os2 os3 osN : Os} {e e1 e2 : Expr} {f f1 f2 : Rho → Out (D × Rho)} {pos p apos : Pos} {es : List Expr} {g : Rho → Out (List D × Rho)}
def listD : List D → Option D
  | [.lst ds] => some (.lst ds)
  | [.tup ds] => some (.lst ds)
  | [.scr ns] => some (.lst (ns.map .int))
  | _ => none
/-- list(e): a new list -/
theorem ve_list {x : Str} (ha : VA X W os [e] g os1) (hx : x = "list") (hm : X.mg x = none) (hg : Gl X x := by rfl) (hle : Le os1 os := by rfl)
    (he : starEach [e] X.env = (false, eval e X.env) :: starEach [] X.env := by rfl) (hpl : (backTo pos (starEach [] X.env)).any (·.1) = false := by rfl) : VE X W os (.Call (.Name x p) [e] [] pos) (eArg listD g) os1 true := by
  obtain ⟨ta, pa, ka⟩ := ha
  subst hx
  refine ⟨_, pe_callTy call_list_of hg hm (by decide +kernel) pa (by decide) (by decide) he hpl, fun S σ H ρ Q rel P => ?_⟩
  refine ka S σ H ρ _ rel (Post.seq P (fun z => z) (fun c fs p => p) fun ds ρ1 vs S1 H1 st1 rel1 q1 P1 => ?_)
  have P1 := P1.step RV.ok st1
  dsimp only at P1
  have fin : ∀ {xs : List V} {ys : List D} (l : Addr), Post X W S1 H1 os1 σ os1 (RV X.K true) Q (.ok (.lst ys, ρ1)) → AtL X.K S1 xs ys → ys.length ≤ sizeLine → H1 l = none → Q (.ref l) (upd H1 l (.lst xs)) := fun {xs ys} l P r z nl => by
    have xx := Ext.newO (O := fun _ => False) (o := .lst xs) rel1.sub nl
    exact P (.ref l) S1 (upd H1 l (.lst xs)) (Stp.of_ext xx) (rel1.ext0 xx) ⟨.mkL (rel1.sub.free nl) upd_same (z) (r), fun a e => by cases e; exact nl⟩
  obtain ⟨q1, _⟩ := q1
  cases hds : listD ds with
  | none => rw [hds] at P1; exact P1.elim
  | some c =>
    rw [hds] at P1
    unfold listD at hds
    split at hds
    · cases hds
      match vs, q1 with
      | [_], .cons (.lst (a := a) (vs := ws) hs z r) .nil => exact ⟨a, ws, rfl, .inl (.of (rel1.sub _ _ hs)), fun l nl => fin l P1 r z nl⟩
    · cases hds
      match vs, q1 with
      | [_], .cons (.tup (a := a) (vs := ws) hs z r) .nil => exact ⟨a, ws, rfl, .inr (sqT_mono rel1.sub hs), fun l nl => fin l P1 r z nl⟩
    · cases hds
      match vs, q1 with
      | [_], .cons (.scr (a := a) (ns := ns) hs z) .nil => exact ⟨a, _, rfl, .inl (rel1.sub.seq hs), fun l nl => fin l P1 (AtL.ints ns) (by rw [List.length_map]; exact z) nl⟩
    · cases hds
/-- list(x), x an owning name: a new list of the same things -/
theorem ve_listO (i : Nat) {x y : Str} {p2 : Pos} (hx : x = "list") (hm : X.mg x = none) (ho : os.getD i false = true := by rfl) (hN : X.N[i]? = some y := by rfl) (hv : Vis X.env.scope y := by first | exact Or.inl rfl | exact Or.inr (Or.inl rfl) | exact Or.inr (Or.inr rfl)) (hg : Gl X x := by rfl)
    (hd : (y == ("__debug__" : Str)) = false := by decide) (hcd : (y == ("__classdict__" : Str)) = false := by decide)
    (he : starEach [.Name y p2] X.env = (false, eval (.Name y p2) X.env) :: starEach [] X.env := by rfl) (hpl : (backTo pos (starEach [] X.env)).any (·.1) = false := by rfl) :
    VE X W os (.Call (.Name x p) [.Name y p2] [] pos) (eArg listD (aCons (eVar i) aNil)) os true := by
  subst hx
  refine ⟨_, pe_callTy call_list_of hg hm (by decide +kernel) (pa_cons (pe_var hN hv hd hcd) pa_nil he) (by decide) (by decide) he hpl, fun S σ H ρ Q rel P => ?_⟩
  unfold eArg aCons eVar aNil at P
  cases h : ρ.getD i none with
  | none => rw [h] at P; exact P.elim
  | some d =>
    rw [h] at P
    obtain ⟨v, ev, q⟩ := rel.own (getD_some h) ho
    obtain ⟨a, ea, na, q⟩ := q
    subst ea
    obtain ⟨o, eh, bd⟩ := q
    cases bd with
    | @lst vs ds z rl =>
      refine ⟨.ref a, ev, a, vs, rfl, .inl (.of eh), fun l nl => ?_⟩
      have xx := Ext.newO (O := fun _ => False) (o := .lst vs) rel.sub nl
      exact P (.ref l) S (upd H l (.lst vs)) (Stp.of_ext xx) (rel.ext0 xx) ⟨.mkL (rel.sub.free nl) upd_same (z) (rl), fun a e => by cases e; exact nl⟩
    | _ => exact P.elim
/-- x[lo:hi] of a list: a new list that is owned -/
def sliceL : D → Option Int → Option Int → Option D
  | .lst xs, lo, hi => some (.lst (cutD xs lo hi))
  | .scr ns, lo, hi => some (.lst (cutD (ns.map .int) lo hi))
  | _, _, _ => none
def eSliceL (f : Rho → Out (D × Rho)) (fl fh : Rho → Out (Option Int × Rho)) : Rho → Out (D × Rho) := fun ρ =>
  (f ρ).bind fun p => (fl p.2).bind fun l => (fh l.2).bind fun h => (Out.of (sliceL p.1 l.1 h.1)).bind fun c => .ok (c, h.2)
theorem ve_sliceL {lo hi : Option Expr} {fl fh : Rho → Out (Option Int × Rho)} {p2 : Pos} (ha : VE X W os e f os1 false) (hl : VO X W os1 lo fl os2) (hh : VO X W os2 hi fh os3) : VE X W os (.Subscript e (.Slice lo hi none p2) pos) (eSliceL f fl fh) os3 true := by
  obtain ⟨ta, pa, ka⟩ := ha
  obtain ⟨tl, pl, kl⟩ := hl
  obtain ⟨th, ph, kh⟩ := hh
  refine ⟨_, pe_slice sl_list pa pl ph, fun S σ H ρ Q rel P => ?_⟩
  refine ka S σ H ρ _ rel (Post.seq P (fun z => z) (fun c fs p => p) fun d ρ1 v S1 H1 st1 rel1 q1 P1 => ?_)
  have P1 := P1.step RV.ok st1
  refine kl S1 σ H1 ρ1 _ rel1 (Post.seq P1 (fun z => z) (fun c fs p => p) fun l ρ2 v2 S2 H2 st2 rel2 q2 P2 => ?_)
  have P2 := P2.step RV.ok st2
  refine kh S2 σ H2 ρ2 _ rel2 (Post.seq P2 (fun z => z) (fun c fs p => p) fun h ρ3 v3 S3 H3 st3 rel3 q3 P3 => ?_)
  cases q2; cases q3
  have P3 := P3.step RV.ok st3
  have q1 : At X.K S3 v d := (At.mono st2.ext.s q1).mono st3.ext.s
  dsimp only at P3
  cases q1 with
  | @lst a vs ds hs z r =>
    refine ⟨a, vs, rfl, .of (rel3.sub _ _ hs), fun q nq => ?_⟩
    have xx := Ext.newO (O := fun _ => False) (o := .lst (cutV vs l h)) rel3.sub nq
    exact P3 (.ref q) S3 _ (Stp.of_ext xx) (rel3.ext0 xx) ⟨.mkL (rel3.sub.free nq) upd_same (Nat.le_trans (cutD_len _ _ _) z) (r.cut l h), fun a e => by cases e; exact nq⟩
  | @scr a ns hs z =>
    refine ⟨a, _, rfl, rel3.sub.seq hs, fun q nq => ?_⟩
    have xx := Ext.newO (O := fun _ => False) (o := .lst (cutV (ns.map V.int) l h)) rel3.sub nq
    exact P3 (.ref q) S3 _ (Stp.of_ext xx) (rel3.ext0 xx) ⟨.mkL (rel3.sub.free nq) upd_same (Nat.le_trans (cutD_len _ _ _) (by rw [List.length_map]; exact z)) ((AtL.ints ns).cut l h), fun a e => by cases e; exact nq⟩
  | _ => exact P3.elim
/-- two lists put together: a new one that is owned -/
theorem ve_catL (ha : VE X W os e1 f1 os1 false) (hb : VE X W os1 e2 f2 os2 false) : VE X W os (.BinOp e1 .Add e2 pos) (eOp2 catL f1 f2) os2 true := by
  obtain ⟨ta, pa, ka⟩ := ha
  obtain ⟨tb, pb, kb⟩ := hb
  refine ⟨_, pe_op op_cat pa pb, fun S σ H ρ Q rel P => ?_⟩
  refine ka S σ H ρ _ rel (Post.seq P (fun z => z) (fun c fs p => p) fun d ρ1 v S1 H1 st1 rel1 q1 P1 => ?_)
  have P1 := P1.step RV.ok st1
  refine kb S1 σ H1 ρ1 _ rel1 (Post.seq P1 (fun z => z) (fun c fs p => p) fun d2 ρ2 v2 S2 H2 st2 rel2 q2 P2 => ?_)
  have P2 := P2.step RV.ok st2
  have q1 : At X.K S2 v d := At.mono st2.ext.s q1
  have q2 : At X.K S2 v2 d2 := q2
  dsimp only at P2
  cases q1 with
  | @lst a vs ds hs z r =>
    cases q2 with
    | @lst b ws es hs2 z2 r2 =>
      have P2 : Post X W S2 H2 os2 σ os2 (RV X.K true) Q ((Out.of (if ds.length + es.length ≤ sizeLine then some (D.lst (ds ++ es)) else none)).bind fun c => .ok (c, ρ2)) := P2
      split at P2
      · rename_i hz
        refine ⟨a, b, vs, ws, rfl, rfl, rel2.sub _ _ hs, rel2.sub _ _ hs2, by rw [r.length, r2.length]; exact hz, fun q nq => ?_⟩
        have xx := Ext.newO (O := fun _ => False) (o := .lst (vs ++ ws)) rel2.sub nq
        exact P2 (.ref q) S2 _ (Stp.of_ext xx) (rel2.ext0 xx) ⟨.mkL (rel2.sub.free nq) upd_same (by rw [List.length_append]; exact hz) (r.append r2), fun a e => by cases e; exact nq⟩
      · exact P2.elim
    | _ => exact P2.elim
  | _ => exact P2.elim

/-! ### an owned list is turned -/
def sSetIx (i : Nat) (f fi : Rho → Out (D × Rho)) : Rho → Out Fl := fun ρ => (f ρ).bind fun p => match p.2.getD i none with
  | none => .stuck
  | some _ => (fi p.2).bind fun q => match q.2.getD i none, q.1 with
    | some (.lst ds), .int k => (match ixN ds.length k with
      | some j => .ok (.nx (q.2.set i (some (.lst (ds.set j p.1)))))
      | none => .stuck)
    | _, _ => .stuck
theorem turnL {S H : Hp} {σ : Sg} {ρ : Rho} {i : Nat} {a : Addr} {vs : List V} {ds : List D} (rel : Rel X.K S H os σ ρ) (ho : os.getD i false = true) (ev : σ[i]? = some (some (.ref a))) (na : S a = none) (z : ds.length ≤ sizeLine) (r : AtL X.K S vs ds) :
    Rel X.K S (upd H a (.lst vs)) os σ (ρ.set i (some (.lst ds))) ∧ Stp os σ S H os σ S (upd H a (.lst vs)) :=
  ⟨rel.turn ho ev (.mkL na upd_same z r), Stp.turn rel ho ev⟩
theorem vs_setIx (i : Nat) {x : Str} {px ps : Pos} {ie : Expr} {fi : Rho → Out (D × Rho)} (hv : VE X W os e f os1 false) (hi : VE X W os1 ie fi os2 false) (ho1 : os1.getD i false = true := by rfl) (ho2 : os2.getD i false = true := by rfl) (hN : X.N[i]? = some x := by rfl)
    (hvis : Vis X.env.scope x := by first | exact Or.inl rfl | exact Or.inr (Or.inl rfl) | exact Or.inr (Or.inr rfl)) (hd : (x == ("__debug__" : Str)) = false := by decide) (hcd : (x == ("__classdict__" : Str)) = false := by decide)
    (ha : ∀ v, assign (.Subscript (.Name x px) ie ps) X.env v = (do
      let ov ← holding [v] (eval (.Name x px) X.env)
      let iv ← holding [v, ov] (eval ie X.env)
      standAt ps
      holding [v, ov, iv] (setItem ov iv v)
      release [v, ov, iv] []) := by intro _; rfl) (hs : swapsWithSole [.Subscript (.Name x px) ie ps] e pos.line X.env = pure false := by rfl) (hw : swappedStores [.Subscript (.Name x px) ie ps] e X.env = pure none := by rfl)
    (h1 : (assignEach [.Subscript (.Name x px) ie ps] X.env).map (·.2) = [assign (.Subscript (.Name x px) ie ps) X.env] := by rfl) :
    VS X W L os (.Assign [.Subscript (.Name x px) ie ps] e pos) (sSetIx i f fi) os2 := by
  obtain ⟨t, pt, kt⟩ := hv
  obtain ⟨ti, pi, ki⟩ := hi
  refine ⟨_, ps_asg pt (pg_sub (pe_var hN hvis hd hcd) pi set_list ha) hs hw h1, fun S σ H ρ Ds rel P => ?_⟩
  refine kt S σ H ρ _ rel (PostS.seqE P fun d ρ1 v S1 H1 s1 r1 q1 P1 => ?_)
  have q1 : At X.K S1 v d := q1
  dsimp only at P1
  cases hx : ρ1.getD i none with
  | none => rw [hx] at P1; exact P1.elim
  | some d1 =>
    rw [hx] at P1
    obtain ⟨u, eu, _⟩ := r1.own (getD_some hx) ho1
    refine ⟨u, eu, ?_⟩
    refine ki S1 σ H1 ρ1 _ r1 (PostS.seqE P1 fun d2 ρ2 v2 S2 H2 s2 r2 q2 P2 => ?_)
    have q2 : At X.K S2 v2 d2 := q2
    dsimp only at P2
    cases hx2 : ρ2.getD i none with
    | none => rw [hx2] at P2; exact P2.elim
    | some d3 =>
      rw [hx2] at P2
      obtain ⟨u', eu', hown⟩ := r2.own (getD_some hx2) ho2
      rw [eu] at eu'
      cases eu'
      obtain ⟨a, ea, na, q⟩ := hown
      subst ea
      obtain ⟨o, eh, bd⟩ := q
      cases bd with
      | @lst vs ds z rl =>
        cases q2 with
        | int k =>
          have P2 : PostS X W L S2 H2 os2 σ os2 Ds (match ixN ds.length k with
            | some j => .ok (.nx (ρ2.set i (some (.lst (ds.set j d)))))
            | none => .stuck) := P2
          cases hj : ixN ds.length k with
          | none => rw [hj] at P2; exact P2.elim
          | some j =>
            rw [hj] at P2
            obtain ⟨r3, st3⟩ := turnL r2 ho2 eu na (by rw [List.length_set]; exact z) (rl.set j (q1.mono s2.ext.s))
            exact ⟨a, vs, k, j, rfl, rfl, eh, by rw [rl.length]; exact hj, P2 σ S2 _ st3 FixOn.refl r3⟩
        | _ => exact P2.elim
      | _ => cases q2 <;> exact P2.elim

/-! ### methods -/
/-- a method that turns its list: u tells the value and the new list -/
def OwnM (X : Cx) (id : String) (u : List D → List D → Option (D × List D)) : Prop :=
  ∃ r, MtR X id r ∧ ∀ S H a vs ds ws es c ds' Q, Same S H → H a = some (.lst vs) → S a = none → AtL X.K S vs ds → AtL X.K S ws es → ds.length ≤ sizeLine → u ds es = some (c, ds') →
    (∀ v vs', AtL X.K S vs' ds' → ds'.length ≤ sizeLine → At X.K S v c → Q v (upd H a (.lst vs'))) → r (.ref a) ws H Q
def eOwnM (u : List D → List D → Option (D × List D)) (i : Nat) (g : Rho → Out (List D × Rho)) : Rho → Out (D × Rho) := fun ρ => match ρ.getD i none with
  | some (.lst _) => (g ρ).bind fun p => (match p.2.getD i none with
    | some (.lst ds) => (Out.of (u ds p.1)).bind fun c => .ok (c.1, p.2.set i (some (.lst c.2)))
    | _ => .stuck)
  | _ => .stuck
theorem ve_ownM (i : Nat) {x name : Str} {id : String} {px cpos : Pos} {u : List D → List D → Option (D × List D)} (hm : OwnM X id u) (pa : PlainAttrs "list") (slot : Slot "list" name id) (hty : typeOf (.builtin id) = pure (.type "method_descriptor")) (hg : VA X W os (e :: es) g os1)
    (ho : os.getD i false = true := by rfl) (ho1 : os1.getD i false = true := by rfl) (hN : X.N[i]? = some x := by rfl) (hvis : Vis X.env.scope x := by first | exact Or.inl rfl | exact Or.inr (Or.inl rfl) | exact Or.inr (Or.inr rfl)) (hd : (x == ("__debug__" : Str)) = false := by decide) (hcd : (x == ("__classdict__" : Str)) = false := by decide)
    (hbase : attributeBase (.Name x px) name X.env (eval (.Name x px) X.env) = eval (.Name x px) X.env := by rfl)
    (hfew : ((backTo cpos (starEach (e :: es) X.env)).all (fun x => !x.1) && (backToKw cpos (keywordEach [] X.env)).all (fun x => x.1.isSome)
      && decide ((e :: es).length + ([] : List Keyword).length + (if ([] : List Keyword).isEmpty then 0 else 1) < 30)) = true := by rfl)
    (hline : (apos.endLine == cpos.line) = true := by rfl) (hs : starEach (e :: es) X.env = (false, eval e X.env) :: starEach es X.env := by rfl) (hplain : (backTo cpos (starEach es X.env)).any (·.1) = false := by rfl) :
    VE X W os (.Call (.Attribute (.Name x px) name apos) (e :: es) [] cpos) (eOwnM u i g) os1 false := by
  obtain ⟨tg, pg, kg⟩ := hg
  obtain ⟨r, pm, km⟩ := hm
  refine ⟨_, pe_bm pa slot hty pm (pe_var hN hvis hd hcd) pg hbase hfew hline hs hplain, fun S σ H ρ Q rel P => ?_⟩
  unfold eOwnM at P
  cases hx : ρ.getD i none with
  | none => rw [hx] at P; exact P.elim
  | some d0 =>
    rw [hx] at P
    obtain ⟨w, ew, hown⟩ := rel.own (getD_some hx) ho
    refine ⟨w, ew, ?_, ?_⟩
    · obtain ⟨a, ea, na, q⟩ := hown
      subst ea
      obtain ⟨o, eh, bd⟩ := q
      cases bd with
      | @lst vs ds z rl => exact .inl ⟨rfl, vs, .of eh⟩
      | _ => exact P.elim
    · have P : Post X W S H os σ os1 (RV X.K false) Q ((g ρ).bind fun p => (match p.2.getD i none with
        | some (.lst ds) => (Out.of (u ds p.1)).bind fun c => .ok (c.1, p.2.set i (some (.lst c.2)))
        | _ => .stuck)) := by
        cases d0 <;> first | exact P | exact P.elim
      refine kg S σ H ρ _ rel (Post.seq P (fun z => z) (fun c fs p => p) fun es' ρ1 ws S1 H1 st1 rel1 q1 P1 => ?_)
      have P1 := P1.step RV.ok st1
      dsimp only at P1
      cases hx1 : ρ1.getD i none with
      | none => rw [hx1] at P1; exact P1.elim
      | some d1 =>
        rw [hx1] at P1
        obtain ⟨w', ew', hown'⟩ := rel1.own (getD_some hx1) ho1
        rw [ew] at ew'
        cases ew'
        obtain ⟨a, ea, na, q⟩ := hown'
        subst ea
        obtain ⟨o, eh, bd⟩ := q
        cases bd with
        | @lst vs ds z rl =>
          have P1 : Post X W S1 H1 os1 σ os1 (RV X.K false) Q ((Out.of (u ds es')).bind fun c => .ok (c.1, ρ1.set i (some (.lst c.2)))) := P1
          cases hu : u ds es' with
          | none => rw [hu] at P1; exact P1.elim
          | some c =>
            rw [hu] at P1
            refine km S1 H1 a vs ds ws es' c.1 c.2 Q rel1.sub eh na rl q1.1 z hu fun v vs' h1 h2 h3 => ?_
            obtain ⟨r3, st3⟩ := turnL rel1 ho1 ew na h2 h1
            exact P1 v S1 _ st3 r3 h3
        | _ => exact P1.elim
theorem ve_ownM0 (i : Nat) {x name : Str} {id : String} {px cpos : Pos} {u : List D → List D → Option (D × List D)} (hm : OwnM X id u) (pa : PlainAttrs "list") (slot : Slot "list" name id) (hty : typeOf (.builtin id) = pure (.type "method_descriptor"))
    (ho : os.getD i false = true := by rfl) (hN : X.N[i]? = some x := by rfl) (hvis : Vis X.env.scope x := by first | exact Or.inl rfl | exact Or.inr (Or.inl rfl) | exact Or.inr (Or.inr rfl)) (hd : (x == ("__debug__" : Str)) = false := by decide) (hcd : (x == ("__classdict__" : Str)) = false := by decide)
    (hbase : attributeBase (.Name x px) name X.env (eval (.Name x px) X.env) = eval (.Name x px) X.env := by rfl) (hline : (apos.endLine == cpos.line) = true := by rfl) :
    VE X W os (.Call (.Attribute (.Name x px) name apos) [] [] cpos) (eOwnM u i aNil) os false := by
  obtain ⟨r, pm, km⟩ := hm
  refine ⟨_, pe_bm0 pa slot hty pm (pe_var hN hvis hd hcd) hbase hline, fun S σ H ρ Q rel P => ?_⟩
  unfold eOwnM at P
  cases hx : ρ.getD i none with
  | none => rw [hx] at P; exact P.elim
  | some d0 =>
    rw [hx] at P
    obtain ⟨w, ew, hown⟩ := rel.own (getD_some hx) ho
    obtain ⟨a, ea, na, q⟩ := hown
    subst ea
    obtain ⟨o, eh, bd⟩ := q
    cases bd with
    | @lst vs ds z rl =>
      refine ⟨.ref a, ew, .inl ⟨rfl, vs, .of eh⟩, ?_⟩
      have P1 : Post X W S H os σ os (RV X.K false) Q (match ρ.getD i none with
        | some (.lst ds) => (Out.of (u ds [])).bind fun c => .ok (c.1, ρ.set i (some (.lst c.2)))
        | _ => .stuck) := P
      rw [hx] at P1
      have P1 : Post X W S H os σ os (RV X.K false) Q ((Out.of (u ds [])).bind fun c => .ok (c.1, ρ.set i (some (.lst c.2)))) := P1
      cases hu : u ds [] with
      | none => rw [hu] at P1; exact P1.elim
      | some c =>
        rw [hu] at P1
        refine km S H a vs ds [] [] c.1 c.2 Q rel.sub eh na rl .nil z hu fun v vs' h1 h2 h3 => ?_
        obtain ⟨r3, st3⟩ := turnL rel ho ew na h2 h1
        exact P1 v S _ st3 r3 h3
    | _ => exact P.elim
def uAppend : List D → List D → Option (D × List D)
  | ds, [d] => if ds.length < sizeLine then some (.non, ds ++ [d]) else none
  | _, _ => none
theorem own_append : OwnM X "list.append" uAppend := ⟨_, mt_append, fun S H a vs ds ws es c ds' Q sub hH na r rw_ z e k => by
  unfold uAppend at e
  split at e
  · rename_i d
    split at e
    · rename_i hz
      cases e
      match ws, rw_ with
      | [w], .cons hw .nil => exact ⟨a, vs, w, rfl, rfl, hH, by rw [r.length]; exact hz, k _ _ (r.append (.cons hw .nil)) (by rw [List.length_append]; exact hz) .non⟩
    · cases e
  · cases e⟩
def uExtend : List D → List D → Option (D × List D)
  | ds, [.lst es] => if ds.length + es.length ≤ sizeLine then some (.non, ds ++ es) else none
  | _, _ => none
theorem own_extend : OwnM X "list.extend" uExtend := ⟨_, mt_extend, fun S H a vs ds ws es c ds' Q sub hH na r rw_ z e k => by
  unfold uExtend at e
  split at e
  · split at e
    · rename_i hz
      cases e
      match ws, rw_ with
      | [_], .cons (.lst (a := b) (vs := us) hb zb rb) .nil => exact ⟨a, b, vs, us, rfl, rfl, hH, sub _ _ hb, by rw [r.length, rb.length]; exact hz, k _ _ (r.append rb) (by rw [List.length_append]; exact hz) .non⟩
    · cases e
  · cases e⟩
def uClear : List D → List D → Option (D × List D)
  | _, [] => some (.non, [])
  | _, _ => none
theorem own_clear : OwnM X "list.clear" uClear := ⟨_, mt_clear, fun S H a vs ds ws es c ds' Q sub hH na r rw_ z e k => by
  unfold uClear at e
  split at e
  · cases e
    match ws, rw_ with
    | [], .nil => exact ⟨a, vs, rfl, rfl, hH, k _ _ .nil (Nat.zero_le _) .non⟩
  · cases e⟩
def uReverse : List D → List D → Option (D × List D)
  | ds, [] => some (.non, ds.reverse)
  | _, _ => none
theorem own_reverse : OwnM X "list.reverse" uReverse := ⟨_, mt_reverse, fun S H a vs ds ws es c ds' Q sub hH na r rw_ z e k => by
  unfold uReverse at e
  split at e
  · cases e
    match ws, rw_ with
    | [], .nil => exact ⟨a, vs, rfl, rfl, hH, k _ _ r.reverse (by rw [List.length_reverse]; exact z) .non⟩
  · cases e⟩
theorem AtL.dropLast {K : PySem.W.Frag} {S : Hp} : ∀ {vs : List V} {ds : List D}, AtL K S vs ds → AtL K S vs.dropLast ds.dropLast
  | _, _, .nil => .nil
  | _, _, .cons h .nil => .nil
  | _, _, .cons h (.cons h2 t) => .cons h (AtL.dropLast (.cons h2 t))
def uPop : List D → List D → Option (D × List D)
  | ds, [] => match ds[ds.length - 1]? with
    | some d => some (d, ds.dropLast)
    | none => none
  | _, _ => none
theorem own_pop : OwnM X "list.pop" uPop := ⟨_, mt_pop, fun S H a vs ds ws es c ds' Q sub hH na r rw_ z e k => by
  unfold uPop at e
  split at e
  · split at e
    · rename_i d hd
      cases e
      obtain ⟨v, ev, hv⟩ := r.get hd
      match ws, rw_ with
      | [], .nil => exact ⟨a, vs, v, rfl, rfl, hH, by rw [r.length]; exact ev, k _ _ r.dropLast (by rw [List.length_dropLast]; omega) hv⟩
    · cases e
  · cases e⟩
end
end SW

set_option maxRecDepth 100000
/-! SW10: break, continue, x op= e, freezing ahead, bodies that always return, a module's constants, the end. -/
namespace SW
open PySem PySem.Spec PyProof.Rows L2
section
variable {X : Cx} {W : WX} {L : Lc} {os os1 os2 os3 osN : Os} {e e1 e2 : Expr} {f f1 f2 : Rho → Out (D × Rho)} {pos p apos : Pos} {es : List Expr} {g g2 : Rho → Out Fl} {st : Stmt} {sts : List Stmt}
def sBrk : Rho → Out Fl := fun ρ => .ok (.bk ρ)
def sCnt : Rho → Out Fl := fun ρ => .ok (.ct ρ)
theorem vs_break (h : L.bk = os := by rfl) : VS X W L os (.Break pos) sBrk osN := ⟨_, ps_break, fun S σ H ρ Ds rel P => P σ S H (by rw [h]; exact Stp.refl rel.sub) FixOn.refl (by rw [h]; exact rel)⟩
theorem vs_continue (h : L.ct = os := by rfl) : VS X W L os (.Continue pos) sCnt osN := ⟨_, ps_continue, fun S σ H ρ Ds rel P => P σ S H (by rw [h]; exact Stp.refl rel.sub) FixOn.refl (by rw [h]; exact rel)⟩
/-- what a name owns stands from ahead of a statement on -/
theorem VS.fz0 (i : Nat) (h : VS X W L (os.set i false) st g osN) : VS X W L os st g osN := by
  obtain ⟨t, p, k⟩ := h
  refine ⟨t, p, fun S σ H ρ Ds rel P => ?_⟩
  obtain ⟨S', _, r', s', _⟩ := freeze1 rel i
  exact k S' σ H ρ Ds r' (P.step s' FixOn.refl)
theorem VSs.fz0 (i : Nat) (h : VSs X W L (os.set i false) sts g osN) : VSs X W L os sts g osN := by
  obtain ⟨t, p, k⟩ := h
  refine ⟨t, p, fun S σ H ρ Ds rel P => ?_⟩
  obtain ⟨S', _, r', s', _⟩ := freeze1 rel i
  exact k S' σ H ρ Ds r' (P.step s' FixOn.refl)
/-- x += e -/
def sAug (i : Nat) (h : D → D → Option D) (f : Rho → Out (D × Rho)) : Rho → Out Fl := fun ρ => match ρ.getD i none with
  | none => .stuck
  | some d => (f ρ).bind fun q => (Out.of (h d q.1)).bind fun c => .ok (.nx (q.2.set i (some c)))
theorem vs_aug (i : Nat) {x : Str} {hh : D → D → Option D} {op : Operator} {ti : TIp} (hop : PIp X op ti) (hd2 : ∀ S H x y a b c Q, Same S H → At X.K S x a → At X.K S y b → hh a b = some c → (∀ v, At X.K S v c → Q v H) → ti x y H Q)
    (he : VE X W os e f os1 false) (hN : X.N.Nodup) (ho : os.getD i false = false := by rfl) (hi : X.N[i]? = some x := by rfl) (hx : Loc X.env.scope x := by first | exact Or.inl rfl | exact Or.inr rfl) (hfi : L.fx.getD i false = false := by rfl)
    (hf : X.fn x = true ∨ X.env.scope.names.lookup x = some .local := by first | exact .inl rfl | exact .inr rfl | assumption) : VS X W L os (.AugAssign (.Name x p) op e pos) (sAug i hh f) (os1.set i false) := by
  obtain ⟨t, pt, kt⟩ := he
  refine ⟨_, ps_aug hN hi hx pt hop hf, fun S σ H ρ Ds rel P => ?_⟩
  unfold sAug at P
  cases h0 : ρ.getD i none with
  | none => rw [h0] at P; exact P.elim
  | some d =>
    rw [h0] at P
    obtain ⟨v, ev, hv⟩ := rel.val (getD_some h0) ho
    refine ⟨v, ev, ?_⟩
    refine kt S σ H ρ _ rel (PostS.seqE P fun d2 ρ1 v2 S1 H1 s1 r1 q1 P1 => ?_)
    dsimp only at P1
    cases hc : hh d d2 with
    | none => rw [hc] at P1; exact P1.elim
    | some c =>
      rw [hc] at P1
      refine hd2 S1 H1 v v2 d d2 c _ r1.sub (hv.mono s1.ext.s) q1 hc fun w hw => ?_
      exact P1 _ S1 H1 ⟨Ext.refl r1.sub, fun a q => .inl (own_set q)⟩ (fix_set hfi) (r1.set hw i)
theorem vs_augAdd (i : Nat) {x : Str} (he : VE X W os e f os1 false) (hN : X.N.Nodup) (ho : os.getD i false = false := by rfl) (hi : X.N[i]? = some x := by rfl) (hx : Loc X.env.scope x := by first | exact Or.inl rfl | exact Or.inr rfl) (hfi : L.fx.getD i false = false := by rfl)
    (hf : X.fn x = true ∨ X.env.scope.names.lookup x = some .local := by first | exact .inl rfl | exact .inr rfl | assumption) : VS X W L os (.AugAssign (.Name x p) .Add e pos) (sAug i addI f) (os1.set i false) :=
  vs_aug i ip_add (fun S H x y a b c Q sub ha hb e k => by
    cases ha with
    | int i =>
      cases hb with
      | int j => cases e; exact ⟨i, j, rfl, rfl, k _ (.int _)⟩
      | _ => cases e
    | _ => cases e) he hN ho hi hx hfi hf
/-- a module's constant -/
def Konst (K : PySem.W.Frag) (mg : Str → Option Value) (x : Str) (d : D) : Prop := ∃ v u, mg x = some u ∧ RelV v u ∧ ∀ S, At K S v d
theorem ve_konst {x : Str} {d : D} (h : Konst X.K X.mg x d) (hg : Gl X x := by rfl) (hd : (x == ("__debug__" : Str)) = false := by decide) : VE X W os (.Name x p) (eCon d) os false := by
  obtain ⟨v, u, hm, hr, hat⟩ := h
  exact ve_glob hm hr hat hg hd
theorem konst_int {K : PySem.W.Frag} {mg : Str → Option Value} {x : Str} {i : Int} {t : Tok} (h : mg x = some (.int i t)) : Konst K mg x (.int i) := ⟨.int i, _, h, ⟨t, rfl⟩, fun _ => .int i⟩
theorem konst_str {K : PySem.W.Frag} {mg : Str → Option Value} {x : Str} {i : Str} {t : Tok} (h : mg x = some (.str i t)) : Konst K mg x (.str i) := ⟨.str i, _, h, ⟨t, rfl⟩, fun _ => .str i⟩
/-! ### a body that never runs off its end -/
def NoNx (g : Rho → Out Fl) : Prop := ∀ ρ ρ', g ρ ≠ .ok (.nx ρ')
theorem nn_seq (h : NoNx g2) : NoNx (sSeq g g2) := fun ρ ρ' e => by
  unfold sSeq at e
  cases hg : g ρ with
  | ok z =>
    rw [hg] at e
    cases z with
    | nx ρ1 => exact h ρ1 ρ' e
    | _ => cases e
  | exc c fs => rw [hg] at e; cases e
  | stuck => rw [hg] at e; cases e
theorem nn_ret : NoNx (sRet f) := fun ρ ρ' e => by
  unfold sRet at e
  cases hg : f ρ <;> rw [hg] at e <;> cases e
theorem nn_if {c : Rho → Out (Bool × Rho)} (h1 : NoNx g) (h2 : NoNx g2) : NoNx (sIf c g g2) := fun ρ ρ' e => by
  unfold sIf at e
  cases hg : c ρ with
  | ok z =>
    rw [hg] at e
    obtain ⟨b, ρ1⟩ := z
    have e : (if b = true then g ρ1 else g2 ρ1) = .ok (.nx ρ') := e
    split at e
    · exact h1 _ _ e
    · exact h2 _ _ e
  | exc c fs => rw [hg] at e; cases e
  | stuck => rw [hg] at e; cases e
theorem nn_stuck : NoNx sStuck := fun _ _ e => by cases e
/-- f(e, ..): the list or dict that f turns is a new one that nobody else holds -/
def eCallT (m : List D → Out (D × D)) (f : Rho → Out (D × Rho)) (g : Rho → Out (List D × Rho)) : Rho → Out (D × Rho) := fun ρ => (f ρ).bind fun p => (g p.2).bind fun q => (m (p.1 :: q.1)).bind fun c => .ok (c.1, q.2)
theorem ve_callT {x : Str} {kk : Nat} {fa : Addr} {fd : FuncData} {ps : List Str} {r : Bool} {m : List D → Out (D × D)} {ga : Rho → Out (List D × Rho)} (F : FnOk X.prog X.w X.K X.mg X.base (L2.CX X.prog X.w) kk fa fd ps (spec X.K X.mg (es.length + 1) (some 0) r m)) (tk : Takes X W)
    (hr : Room kk X.A) (hm : X.mg x = some (.ref fa)) (hk : PySem.W.keepIn X.K (.ref fa) = true) (hb : Binds X.K fd ps []) (h0 : VE X W os e f os1 true) (ha : VA X W os1 es ga os2) (hle : Le os1 os := by rfl) (hle2 : Le os2 os := by rfl) (hg : Gl X x := by rfl) (hdb : (x == ("__debug__" : Str)) = false := by decide)
    (he : starEach (e :: es) X.env = (false, eval e X.env) :: starEach es X.env := by rfl) (hpl : (backTo pos (starEach es X.env)).any (·.1) = false := by rfl) :
    VE X W os (.Call (.Name x p) (e :: es) [] pos) (eCallT m f ga) os2 r := by
  obtain ⟨t0, p0, k0⟩ := h0
  obtain ⟨ta, pa, ka⟩ := ha
  refine ⟨_, pe_callS F hr hg hm hk hb (fun σ => passAt tk σ) (pa_cons p0 pa he) hdb he hpl, fun S σ H ρ Q rel P => ?_⟩
  refine k0 S σ H ρ _ rel (Post.seq P (fun z => z) (fun c fs p => p) fun d ρ1 v S1 H1 st1 rel1 q1 P1 => ?_)
  have P1 : Post X W S H os σ os2 (RV X.K r) Q ((ga ρ1).bind fun q => (m (d :: q.1)).bind fun c => .ok (c.1, q.2)) := P1
  refine ka S1 σ H1 ρ1 _ rel1 (Post.seq P1 (fun z => z) (fun c fs p S' H' cls dd x q => p S' H' cls dd (st1.ext.trans x st1.own) q) fun ds ρ2 vs S2 H2 st2 rel2 q2 P2 => ?_)
  have P2 : Post X W S H os σ os2 (RV X.K r) Q ((m (d :: ds)).bind fun c => .ok (c.1, ρ2)) := P2
  obtain ⟨q2, l2⟩ := q2
  have q1 : OwnAt X.K S1 H1 v d ∧ ∀ a, v = .ref a → H a = none := q1
  obtain ⟨q1, fr⟩ := q1
  have nown1 : ∀ a, v = .ref a → ¬ Own os1 σ a := fun a ea ⟨i, hi, hs⟩ => by
    obtain ⟨_, o, eo⟩ := rel.owned ⟨i, getD_le hle hi, hs⟩
    rw [fr a ea] at eo; cases eo
  have q3 : OwnAt X.K S2 H2 v d := q1.ext st2.ext nown1
  have st := st1.trans st2
  refine ⟨by rw [List.length_cons, q2.length, l2], S2, d :: ds, ⟨rel2.sub, by rw [List.length_map, List.length_map, List.length_cons, List.length_cons, q2.length], fun j x y e1 e2 => ?_, fun j j' a h1 h2 _ _ => by rw [osP_get.mp h1, osP_get.mp h2]⟩, ?_⟩
  · cases j with
    | zero => cases e1; cases e2; exact q3
    | succ j =>
      have e1 : (vs.map some)[j]? = some x := e1
      have e2 : (ds.map some)[j]? = some y := e2
      rw [List.getElem?_map] at e1 e2
      have hf : (osP (some 0)).getD (j + 1) false = false := by
        cases h : (osP (some 0)).getD (j + 1) false
        · rfl
        · exact absurd (osP_get.mp h) (by omega)
      rw [hf]
      cases ed : ds[j]? with
      | none => rw [ed] at e2; cases e2
      | some d' =>
        obtain ⟨w, ew, hw⟩ := q2.get ed
        rw [ed] at e2; rw [ew] at e1
        cases e1; cases e2
        exact hw
  · have conv : ∀ a, Own (osP (some 0)) ((v :: vs).map some) a → v = .ref a := fun a ⟨j, h1, h2⟩ => by
      have hj := osP_get.mp h1
      subst hj
      have h2 : some (some v) = some (some (V.ref a)) := h2
      cases h2
      rfl
    have sub : ∀ a, Own (osP (some 0)) ((v :: vs).map some) a → Own os σ a ∨ H a = none := fun a h => .inr (fr a (conv a h))
    cases hmd : m (d :: ds) with
    | stuck => rw [hmd] at P2; exact P2.elim
    | exc c fs =>
      rw [hmd] at P2
      exact fun S' H' cls dd x q => P2 S' H' cls dd (st.ext.trans x sub) q
    | ok z =>
      rw [hmd] at P2
      intro w S' H' x q _
      refine P2 w S' H' ⟨st.ext.trans x sub, fun a q => st.own a q⟩ (rel2.grow x fun a h z => ?_) (RV.ok _ _ _ _ _ _ st.ext.there q)
      -- no slot owns the new one
      obtain ⟨i, hi, hs⟩ := h
      have ea := conv a z
      obtain ⟨_, o, eo⟩ := rel.owned ⟨i, getD_le hle2 hi, hs⟩
      rw [fr a ea] at eo; cases eo
end
/-- how a def's arguments bind: no defaults -/
abbrev bnd := @Fun.binds
/-- the end: a law that is one for-all of its mirror -/
def specL (K : PySem.W.Frag) (m : List D → Out (D × D)) : Sp := fun vs H Q _ => ∃ (a : Addr) (ns : List Int), vs = [.ref a] ∧ SqL K H a (ns.map V.int) ∧ ns.length ≤ 63 ∧ (∃ o, m [.scr ns] = .ok (.bl true, o)) ∧ ∀ H', Q (.bl true) H'
theorem specL_imp {K : PySem.W.Frag} {mg : Str → Option Value} {m : List D → Out (D × D)} : ∀ vs H Q E, specL K m vs H Q E → spec K mg 1 none false m vs H Q E := by
  rintro vs H Q E ⟨a, ns, rfl, hs, hl, ⟨o, e⟩, hq⟩
  refine ⟨rfl, H, [.scr ns], rel_args (.cons (.scr hs (Nat.le_trans hl (by decide))) .nil) (Same.refl _), ?_⟩
  rw [e]
  intro v S' H' x q _
  have q : At K S' v (.bl true) := q
  cases q
  exact hq H'
theorem law_specL {K : PySem.W.Frag} {m : List D → Out (D × D)} (hm : ∀ ns : List Int, ns.length ≤ 63 → ∃ o, m [.scr ns] = .ok (.bl true, o)) {H : Hp} {a : Addr} {ns : List Int} (hl : ns.length ≤ 63) (hs : SqL K H a (ns.map V.int)) :
    specL K m [.ref a] H (fun v _ => v = .bl true) fun _ _ _ => False := ⟨a, ns, rfl, hs, hl, hm ns hl, fun _ => rfl⟩
end SW
namespace SW
open PySem PySem.Spec PyProof.Rows L2
theorem bt_len : bootBuiltins "len" = some (.builtin "len") := by decide +kernel
theorem bt_isinstance : bootBuiltins "isinstance" = some (.builtin "isinstance") := by decide +kernel
theorem bt_abs : bootBuiltins "abs" = some (.builtin "abs") := by decide +kernel
theorem bt_max : bootBuiltins "max" = some (.builtin "max") := by decide +kernel
theorem bt_min : bootBuiltins "min" = some (.builtin "min") := by decide +kernel
theorem bt_sum : bootBuiltins "sum" = some (.builtin "sum") := by decide +kernel
theorem bt_int : bootBuiltins "int" = some (.type "int") := by decide +kernel
theorem bt_bool : bootBuiltins "bool" = some (.type "bool") := by decide +kernel
theorem bt_tuple : bootBuiltins "tuple" = some (.type "tuple") := by decide +kernel
theorem bt_list : bootBuiltins "list" = some (.type "list") := by decide +kernel
theorem bt_str : bootBuiltins "str" = some (.type "str") := by decide +kernel
theorem bt_dict : bootBuiltins "dict" = some (.type "dict") := by decide +kernel
theorem hu65 {A : Around} {k : Nat} (hr : Room k A) : A.units + 65 < cLine := by have := hr.un; omega
/-- comparisons: numbers first, then any data that are alike -/
def ltA : D → D → Option D := fun a b => match ltI a b with | some c => some c | none => ltD a b
def leA : D → D → Option D := fun a b => match leI a b with | some c => some c | none => leD a b
def gtA : D → D → Option D := fun a b => match gtI a b with | some c => some c | none => gtD a b
def geA : D → D → Option D := fun a b => match geI a b with | some c => some c | none => geD a b
theorem o_ltA {X : Cx} (hu : X.A.units + 64 < cLine) : Op2 X (compareOp .Lt) ltA := o_ltI.or (o_lt hu)
theorem o_leA {X : Cx} (hu : X.A.units + 64 < cLine) : Op2 X (compareOp .LtE) leA := o_leI.or (o_le hu)
theorem o_gtA {X : Cx} (hu : X.A.units + 64 < cLine) : Op2 X (compareOp .Gt) gtA := o_gtI.or (o_gt hu)
theorem o_geA {X : Cx} (hu : X.A.units + 64 < cLine) : Op2 X (compareOp .GtE) geA := o_geI.or (o_ge hu)
theorem osP_none : osP none = [] := rfl
/-- the def's own start: only the turned parameter is owned -/
theorem os_ok {os : Os} {pm : Option Nat} (h : (List.range (max os.length (osP pm).length)).all (fun i => os.getD i false == (osP pm).getD i false) = true) : ∀ i, os.getD i false = (osP pm).getD i false := fun i => by
  by_cases hi : i < max os.length (osP pm).length
  · exact eq_of_beq (List.all_eq_true.mp h i (List.mem_range.mpr hi))
  · rw [List.getD, List.getD, List.getElem?_eq_none (by omega), List.getElem?_eq_none (by omega)]
theorem konst_tup {K : PySem.W.Frag} {mg : Str → Option Value} {x : Str} {p : Addr} {o : Obj} {its : Array Value} {n : Nat} {vs : List V} {ds : List D} (h : mg x = some (.ref p)) (hk : K.lookup p = some o) (hc : o.cls = .type "tuple") (hd : o.data = .seq its n) (hz : its.size ≤ sizeLine ∧ ds.length ≤ sizeLine) (hv : Vals vs its.toList) (hat : ∀ {S}, AtL K S vs ds) : Konst K mg x (.tup ds) :=
  ⟨.ref p, _, h, rfl, fun S => .tup (.inr ⟨o, its, n, hk, hc, hd, hz.1, hv⟩) hz.2 hat⟩
theorem cx_false {P : Program} {w : World} {H : Hp} {s s' : Shared} {e : Value} (h : L2.CX P w [] H s (fun _ _ _ => False) e s') : False := by
  obtain ⟨_, _, _, _, _, _, _, _, _, _, _, _, z⟩ := h
  exact z
def eIxQ (i : Nat) (f : Rho → Out (D × Rho)) : Rho → Out (D × Rho) := fun ρ => match ρ.getD i none with | some _ => eIxO i f ρ | none => .stuck
def aHoleQ (i : Nat) (g : Rho → Out (List D × Rho)) : Rho → Out (List D × Rho) := fun ρ => match ρ.getD i none with | some _ => aHole g ρ | none => .stuck
/-- fuels -/
def fuelInt (i : Nat) : Rho → Nat := fun ρ => match ρ.getD i none with
  | some (.int n) => n.natAbs + 1
  | _ => 0
def fuelLen (i : Nat) : Rho → Nat := fun ρ => match ρ.getD i none with
  | some (.tup ds) => ds.length + 1
  | some (.lst ds) => ds.length + 1
  | _ => 0
end SW

set_option maxRecDepth 100000
/-! SW11: how mirrors are reckoned: equations for simp. -/
namespace SW
open PySem PySem.Spec PyProof.Rows L2
section
variable {α β : Type} {ρ ρ1 ρ2 : Rho} {i j : Int} {d e : D} {k : α → Out β} {a : α}
theorem bind_ok : (Out.ok a).bind k = k a := rfl
theorem bind_exc {c fs} : (Out.exc c fs : Out α).bind k = .exc c fs := rfl
theorem bind_stuck : (Out.stuck : Out α).bind k = .stuck := rfl
theorem of_some : Out.of (some a) = .ok a := rfl
theorem eVar_ok {i : Nat} (h : ρ.getD i none = some d) : eVar i ρ = .ok (d, ρ) := by unfold eVar; rw [h]
theorem eCon_ok : eCon d ρ = .ok (d, ρ) := rfl
theorem aNil_ok : aNil ρ = .ok ([], ρ) := rfl
theorem oNone_ok : oNone ρ = .ok (none, ρ) := rfl
theorem tYes_ok : tYesF ρ = .ok (true, ρ) := rfl
theorem sSkip_ok : sSkip ρ = .ok (.nx ρ) := rfl
/-! numbers -/
theorem addD_int : addD (.int i) (.int j) = some (.int (i + j)) := rfl
theorem subD_int : subD (.int i) (.int j) = some (.int (i - j)) := rfl
theorem negD_int : negD (.int i) = some (.int (-i)) := rfl
theorem repD_int (h : bits2 i j = true) : repD (.int i) (.int j) = some (.int (i * j)) := by show (if bits2 i j = true then some (D.int (i * j)) else none) = _; rw [if_pos h]
theorem modD_int (h : 0 < j) : modD (.int i) (.int j) = some (.int (i % j)) := by
  show (if (j != 0) = true then some (D.int (i.fmod j)) else none) = _
  rw [if_pos (by simp; omega), Int.fmod_eq_emod_of_nonneg _ (by omega)]
theorem fdivD_int (h : 0 < j) : fdivD (.int i) (.int j) = some (.int (i / j)) := by
  have e : fdivOk i j = true := by
    unfold fdivOk
    simp
    omega
  show (if fdivOk i j = true then some (D.int (i.fdiv j)) else none) = _
  rw [if_pos e, Int.fdiv_eq_ediv_of_nonneg _ (by omega)]
theorem ltA_int : ltA (.int i) (.int j) = some (.bl (decide (i < j))) := rfl
theorem leA_int : leA (.int i) (.int j) = some (.bl (decide (i ≤ j))) := rfl
theorem gtA_int : gtA (.int i) (.int j) = some (.bl (decide (j < i))) := rfl
theorem geA_int : geA (.int i) (.int j) = some (.bl (decide (j ≤ i))) := rfl
theorem eqD_int : eqD (.int i) (.int j) = some (.bl (decide (i = j))) := by
  show some (D.bl (i == j)) = _
  rw [Bool.beq_eq_decide_eq]
theorem neD_int : neD (.int i) (.int j) = some (.bl (!decide (i = j))) := by
  show some (D.bl (!(i == j))) = _
  rw [Bool.beq_eq_decide_eq]
theorem powD_int {n : Int} (h : powOk i j = true) (hn : i ^ j.toNat = n) : powD (.int i) (.int j) = some (.int n) := by
  subst hn
  show (if powOk i j = true then some (D.int (i ^ j.toNat)) else none) = _
  rw [if_pos h]
theorem pow_10_18 : powD (.int 10) (.int 18) = some (.int 1000000000000000000) := powD_int (by decide) (by decide)
theorem pow_10_60 : powD (.int 10) (.int 60) = some (.int 1000000000000000000000000000000000000000000000000000000000000) := powD_int (by decide) (by decide)
/-! calls -/
theorem eCall_ok {m : List D → Out (D × D)} {g : Rho → Out (List D × Rho)} {ds : List D} {o : D} (hg : g ρ = .ok (ds, ρ1)) (hm : m ds = .ok (d, o)) : eCall m g ρ = .ok (d, ρ1) := by
  unfold eCall; rw [hg, bind_ok]; dsimp only; rw [hm, bind_ok]
theorem bits2_of {i j : Int} {a b : Nat} (ha : i.natAbs < 2 ^ a) (hb : j.natAbs < 2 ^ b) (h : a + b ≤ 130000000) : bits2 i j = true := by
  have h1 : i.natAbs.log2 < a + 1 := by
    by_cases hz : i.natAbs = 0
    · rw [hz]; simp
    · exact Nat.lt_succ_of_lt ((Nat.log2_lt hz).mpr ha)
  have h2 : j.natAbs.log2 < b + 1 := by
    by_cases hz : j.natAbs = 0
    · rw [hz]; simp
    · exact Nat.lt_succ_of_lt ((Nat.log2_lt hz).mpr hb)
  unfold bits2
  rw [decide_eq_true (show i.natAbs.log2 + j.natAbs.log2 < 134000000 by omega)]
  rfl
theorem bits2_r {i j : Int} (hb : j.natAbs < 2 ^ 63) : bits2 i j = true := by
  unfold bits2
  rw [decide_eq_true hb]
  simp
theorem bits2_l {i j : Int} (hb : i.natAbs < 2 ^ 63) : bits2 i j = true := by
  unfold bits2
  rw [decide_eq_true hb]
  simp
end
end SW

set_option maxRecDepth 100000
/-! SW12: typed data (Enc), loops and comprehensions by typed functions, slices, words. -/
namespace SW
open PySem PySem.Spec PyProof.Rows L2

/-! ### typed data -/
structure Enc (α : Type) [DecidableEq α] where
  en : α → D
  py : α → PyData
  dp : Nat
  hpy : ∀ a, (en a).py = some (py a)
  heq : ∀ a b, PyData.eqv (py a) (py b) = decide (a = b)
  lay : ∀ a, (py a).canLay0 = true
  hdp : ∀ a, (py a).depth ≤ dp
section
variable {α β : Type} [DecidableEq α] [DecidableEq β]
def eInt : Enc Int where
  en := .int
  py := .int
  dp := 0
  hpy _ := rfl
  heq a b := by show (a == b) = _; rw [Bool.beq_eq_decide_eq]
  lay _ := by simp [PyData.canLay0]
  hdp _ := by simp [PyData.depth]
theorem pyL_map (e : Enc α) : ∀ l : List α, D.pyL (l.map e.en) = some (l.map e.py)
  | [] => rfl
  | a :: l => by
    show (match D.py (e.en a), D.pyL (l.map e.en) with
      | some p, some ps => some (p :: ps)
      | _, _ => none) = _
    rw [e.hpy, pyL_map e l]
    rfl
theorem eqvAll_map (e : Enc α) : ∀ a b : List α, PyData.eqvAll (a.map e.py) (b.map e.py) = decide (a = b)
  | [], [] => rfl
  | [], _ :: _ => rfl
  | _ :: _, [] => rfl
  | x :: a, y :: b => by
    show (PyData.eqv (e.py x) (e.py y) && PyData.eqvAll (a.map e.py) (b.map e.py)) = _
    rw [e.heq, eqvAll_map e a b, Bool.eq_iff_iff]
    simp
theorem layAll_map (e : Enc α) : ∀ a : List α, PyData.canLayAll0 (a.map e.py) = true
  | [] => by simp [PyData.canLayAll0]
  | x :: a => by
    show PyData.canLayAll0 (e.py x :: a.map e.py) = true
    rw [PyData.canLayAll0, e.lay, layAll_map e a]
    rfl
theorem dpAll_map (e : Enc α) : ∀ a : List α, PyData.depthAll (a.map e.py) ≤ e.dp
  | [] => by simp [PyData.depthAll]
  | x :: a => by
    show PyData.depthAll (e.py x :: a.map e.py) ≤ _
    rw [PyData.depthAll]
    exact Nat.max_le.mpr ⟨e.hdp x, dpAll_map e a⟩
def eTupOf (e : Enc α) : Enc (List α) where
  en l := .tup (l.map e.en)
  py l := .tuple (l.map e.py)
  dp := e.dp + 1
  hpy l := by show (D.pyL (l.map e.en)).map PyData.tuple = _; rw [pyL_map]; rfl
  heq a b := eqvAll_map e a b
  lay a := by rw [PyData.canLay0]; exact layAll_map e a
  hdp a := by rw [PyData.depth]; have := dpAll_map e a; omega
def eLstOf (e : Enc α) : Enc (List α) where
  en l := .lst (l.map e.en)
  py l := .list (l.map e.py)
  dp := e.dp + 1
  hpy l := by show (D.pyL (l.map e.en)).map PyData.list = _; rw [pyL_map]; rfl
  heq a b := eqvAll_map e a b
  lay a := by rw [PyData.canLay0]; exact layAll_map e a
  hdp a := by rw [PyData.depth]; have := dpAll_map e a; omega
def ePair (e : Enc α) (f : Enc β) : Enc (α × β) where
  en p := .tup [e.en p.1, f.en p.2]
  py p := .tuple [e.py p.1, f.py p.2]
  dp := max e.dp f.dp + 1
  hpy p := by
    have e2 : D.pyL [f.en p.2] = some [f.py p.2] := pyL_map f [p.2]
    have e3 : D.pyL [e.en p.1, f.en p.2] = some [e.py p.1, f.py p.2] := by
      show (match D.py (e.en p.1), D.pyL [f.en p.2] with
        | some p, some ps => some (p :: ps)
        | _, _ => none) = _
      rw [e.hpy, e2]
    show (D.pyL [e.en p.1, f.en p.2]).map PyData.tuple = _
    rw [e3]
    rfl
  heq a b := by
    show (PyData.eqv (e.py a.1) (e.py b.1) && (PyData.eqv (f.py a.2) (f.py b.2) && true)) = _
    rw [e.heq, f.heq, Bool.eq_iff_iff]
    simp [Prod.ext_iff]
  lay a := by simp [PyData.canLay0, PyData.canLayAll0, e.lay, f.lay]
  hdp a := by
    simp only [PyData.depth, PyData.depthAll]
    have := e.hdp a.1
    have := f.hdp a.2
    omega
theorem shaped_enc (e : Enc α) (h : e.dp ≤ 64) (a : α) : SeqAt.shaped (e.py a) = true := by
  unfold SeqAt.shaped
  rw [e.lay, decide_eq_true (Nat.le_trans (e.hdp a) h)]
  rfl
theorem eqD_enc (e : Enc α) (h : e.dp ≤ 64) (a b : α) : eqD (e.en a) (e.en b) = some (.bl (decide (a = b))) := by
  unfold eqD cmpP
  rw [e.hpy, e.hpy]
  dsimp only
  unfold shOk
  rw [shaped_enc e h, shaped_enc e h, e.heq]
  rfl
theorem neD_enc (e : Enc α) (h : e.dp ≤ 64) (a b : α) : neD (e.en a) (e.en b) = some (.bl (!decide (a = b))) := by
  unfold neD cmpP
  rw [e.hpy, e.hpy]
  dsimp only
  unfold shOk
  rw [shaped_enc e h, shaped_enc e h, e.heq]
  rfl
end
/-! ### words of whole numbers -/
abbrev eWord : Enc (List Int) := eTupOf eInt
def ltN : List Int → List Int → Bool
  | _, [] => false
  | [], _ :: _ => true
  | x :: xs, y :: ys => if x = y then ltN xs ys else decide (x < y)
theorem ltN_toks : ∀ a b : List Int, PyProof.Rows.lexLt PyProof.Rows.itemOrd (PySem.W.keyToksAll (a.map PyData.int)) (PySem.W.keyToksAll (b.map PyData.int)) = ltN a b
  | [], [] => by rfl
  | [], y :: ys => by
    rw [List.map_nil, List.map_cons, PySem.W.toks_all_cons]
    show PyProof.Rows.lexLt PyProof.Rows.itemOrd (PySem.W.keyToksAll []) _ = true
    rw [PySem.W.keyToksAll]
    rw [PyProof.Rows.lex_diff (O := PyProof.Rows.itemOrd) (by intro z; cases z)]
    rfl
  | x :: xs, [] => by
    rw [List.map_nil, List.map_cons, PySem.W.toks_all_cons]
    show PyProof.Rows.lexLt PyProof.Rows.itemOrd _ (PySem.W.keyToksAll []) = false
    rw [PySem.W.keyToksAll]
    rw [PyProof.Rows.lex_diff (O := PyProof.Rows.itemOrd) (by intro z; cases z)]
    rfl
  | x :: xs, y :: ys => by
    rw [List.map_cons, List.map_cons, PySem.W.toks_all_cons, PySem.W.toks_all_cons, PyProof.Rows.lex_self (O := PyProof.Rows.itemOrd)]
    have e1 : ∀ z : Int, PySem.W.keyToks (.int z) = [Sum.inl z] := fun z => by rw [PySem.W.keyToks]
    rw [e1, e1]
    show PyProof.Rows.lexLt PyProof.Rows.itemOrd (Sum.inl x :: PySem.W.keyToksAll (xs.map PyData.int)) (Sum.inl y :: PySem.W.keyToksAll (ys.map PyData.int)) = (if x = y then ltN xs ys else decide (x < y))
    by_cases h : x = y
    · subst h
      rw [PyProof.Rows.lex_self (O := PyProof.Rows.itemOrd), ltN_toks xs ys, if_pos rfl]
    · rw [PyProof.Rows.lex_diff (O := PyProof.Rows.itemOrd) (fun z => h (Sum.inl.inj z)), if_neg h]
      rfl
theorem alike_ints : ∀ a b : List Int, PySem.W.alikeAll (a.map PyData.int) (b.map PyData.int) = true
  | [], _ => by simp [PySem.W.alikeAll]
  | _ :: _, [] => by simp [PySem.W.alikeAll]
  | x :: a, y :: b => by
    rw [List.map_cons, List.map_cons, PySem.W.alikeAll, PySem.W.alike, alike_ints a b]
    rfl
theorem alOk_word (a b : List Int) : alOk (eWord.py a) (eWord.py b) = true := by
  unfold alOk
  have h1 : PySem.W.alike (eWord.py a) (eWord.py b) = true := by
    show PySem.W.alike (.tuple (a.map PyData.int)) (.tuple (b.map PyData.int)) = true
    rw [PySem.W.alike]
    exact alike_ints a b
  rw [h1, decide_eq_true (Nat.le_trans (eWord.hdp a) (by decide))]
  rfl
theorem cmp_word {g : PyData → PyData → Bool} (a b : List Int) : cmpP g alOk (eWord.en a) (eWord.en b) = some (.bl (g (eWord.py a) (eWord.py b))) := by
  unfold cmpP
  rw [eWord.hpy, eWord.hpy]
  dsimp only
  rw [alOk_word, if_pos rfl]
theorem lt_word (a b : List Int) : PySem.W.dataLt (eWord.py a) (eWord.py b) = ltN a b := by
  show PySem.W.dataLt (.tuple (a.map PyData.int)) (.tuple (b.map PyData.int)) = _
  rw [PySem.W.dataLt_tuple]
  exact ltN_toks a b
theorem ltA_word (a b : List Int) : ltA (eWord.en a) (eWord.en b) = some (.bl (ltN a b)) := by
  show ltD _ _ = _
  unfold ltD; rw [cmp_word, lt_word]
theorem gtA_word (a b : List Int) : gtA (eWord.en a) (eWord.en b) = some (.bl (ltN b a)) := by
  show gtD _ _ = _
  unfold gtD; rw [cmp_word, lt_word]
theorem leA_word (a b : List Int) : leA (eWord.en a) (eWord.en b) = some (.bl (!ltN b a)) := by
  show leD _ _ = _
  unfold leD; rw [cmp_word, lt_word]
theorem geA_word (a b : List Int) : geA (eWord.en a) (eWord.en b) = some (.bl (!ltN a b)) := by
  show geD _ _ = _
  unfold geD; rw [cmp_word, lt_word]

/-! ### slices -/
theorem cut_drop (l : List D) {k : Int} (h : 0 ≤ k) : cutD l (some k) none = l.drop k.toNat := by
  unfold cutD
  have e : HT.sIx l.length 0 (some k) = min k.toNat l.length := by
    show (if k < 0 then (k + (l.length : Int)).toNat else min k.toNat l.length) = _
    rw [if_neg (by omega)]
  rw [e]
  show List.take (l.length - min k.toNat l.length) (l.drop (min k.toNat l.length)) = _
  rcases Nat.le_total k.toNat l.length with h1 | h1
  · rw [Nat.min_eq_left h1, List.take_of_length_le (by rw [List.length_drop]; omega)]
  · rw [Nat.min_eq_right h1, List.drop_of_length_le (Nat.le_refl _), List.drop_of_length_le h1, List.take_nil]
theorem cut_take (l : List D) {k : Int} (h : 0 ≤ k) : cutD l none (some k) = l.take k.toNat := by
  unfold cutD
  have e : HT.sIx l.length l.length (some k) = min k.toNat l.length := by
    show (if k < 0 then (k + (l.length : Int)).toNat else min k.toNat l.length) = _
    rw [if_neg (by omega)]
  rw [e]
  show List.take (min k.toNat l.length - 0) (l.drop 0) = _
  rw [List.drop_zero, Nat.sub_zero]
  rcases Nat.le_total k.toNat l.length with h1 | h1
  · rw [Nat.min_eq_left h1]
  · rw [Nat.min_eq_right h1, List.take_of_length_le (Nat.le_refl _), List.take_of_length_le h1]
theorem cut_mid (l : List D) {a b : Int} (h : 0 ≤ a) (h2 : 0 ≤ b) (h3 : b ≤ l.length) : cutD l (some a) (some b) = (l.drop a.toNat).take (b.toNat - a.toNat) := by
  unfold cutD
  have e : HT.sIx l.length l.length (some b) = b.toNat := by
    show (if b < 0 then (b + (l.length : Int)).toNat else min b.toNat l.length) = _
    rw [if_neg (by omega)]
    omega
  have e2 : HT.sIx l.length 0 (some a) = min a.toNat l.length := by
    show (if a < 0 then (a + (l.length : Int)).toNat else min a.toNat l.length) = _
    rw [if_neg (by omega)]
  rw [e, e2]
  rcases Nat.le_total a.toNat l.length with h1 | h1
  · rw [Nat.min_eq_left h1]
  · rw [Nat.min_eq_right h1, List.drop_of_length_le (Nat.le_refl _), List.drop_of_length_le h1, List.take_nil, List.take_nil]
/-! ### loops -/
section
variable {ι σ : Type} {b : D → Rho → Option Rho} {g : Rho → Out Fl} {vs : List Nat} {tt : Rho → Out (Bool × Rho)} {fe : Rho → Out (D × Rho)} {f : ι → D}
/-- a comprehension that turns nothing -/
theorem compL_of {ρ : Rho} {c : ι → Bool} {h : ι → D} : ∀ (l : List ι), (∀ i ∈ l, ∃ ρ1, b (f i) (wipeR ρ vs) = some ρ1 ∧ ∃ ρ2, tt ρ1 = .ok (c i, ρ2) ∧ (c i = false → backR vs ρ ρ2 = ρ) ∧ (c i = true → ∃ ρ3, fe ρ2 = .ok (h i, ρ3) ∧ backR vs ρ ρ3 = ρ)) →
    compL vs b tt fe (l.map f) ρ = .ok ((l.filter c).map h, ρ)
  | [], _ => rfl
  | i :: l, st => by
    obtain ⟨ρ1, e1, ρ2, e2, hf, ht⟩ := st i List.mem_cons_self
    have ih := compL_of l fun j hj => st j (List.mem_cons_of_mem _ hj)
    rw [List.map_cons]
    unfold compL
    rw [e1]
    dsimp only
    rw [e2]
    cases hc : c i with
    | false =>
      dsimp only
      rw [hf hc, ih, List.filter_cons_of_neg (by simp [hc])]
    | true =>
      obtain ⟨ρ3, e3, e4⟩ := ht hc
      dsimp only
      rw [e3]
      dsimp only
      rw [e4, ih, List.filter_cons_of_pos hc, List.map_cons]
      rfl
/-- a loop that turns a state -/
theorem forL_fold {St : σ → Rho → Prop} {step : σ → ι → σ} : ∀ (l : List ι) (s : σ) (ρ : Rho), St s ρ → (∀ i ∈ l, ∀ s ρ, St s ρ → ∃ ρ1 ρ2, b (f i) ρ = some ρ1 ∧ g ρ1 = .ok (.nx ρ2) ∧ St (step s i) ρ2) →
    ∃ ρ', forL b g (l.map f) ρ = .ok (.nx ρ') ∧ St (l.foldl step s) ρ'
  | [], s, ρ, h, _ => ⟨ρ, rfl, h⟩
  | i :: l, s, ρ, h, st => by
    obtain ⟨ρ1, ρ2, e1, e2, h2⟩ := st i List.mem_cons_self s ρ h
    obtain ⟨ρ', e3, h3⟩ := forL_fold l (step s i) ρ2 h2 fun j hj => st j (List.mem_cons_of_mem _ hj)
    refine ⟨ρ', ?_, h3⟩
    rw [List.map_cons]
    unfold forL
    rw [e1]
    dsimp only
    rw [e2, bind_ok]
    exact e3
/-- a loop that searches -/
theorem forL_search {St : Rho → Prop} {c : ι → Bool} {d : ι → D} : ∀ (l : List ι) (ρ : Rho), St ρ → (∀ i ∈ l, ∀ ρ, St ρ → ∃ ρ1, b (f i) ρ = some ρ1 ∧ ((c i = false ∧ ∃ ρ2, g ρ1 = .ok (.nx ρ2) ∧ St ρ2) ∨ (c i = true ∧ ∃ ρ2, g ρ1 = .ok (.rt (d i) ρ2)))) →
    (l.find? c = none ∧ ∃ ρ', forL b g (l.map f) ρ = .ok (.nx ρ') ∧ St ρ') ∨ ∃ i, l.find? c = some i ∧ ∃ ρ', forL b g (l.map f) ρ = .ok (.rt (d i) ρ')
  | [], ρ, h, _ => .inl ⟨rfl, ρ, rfl, h⟩
  | i :: l, ρ, h, st => by
    obtain ⟨ρ1, e1, h2⟩ := st i List.mem_cons_self ρ h
    rw [List.map_cons]
    rcases h2 with ⟨hc, ρ2, e2, h3⟩ | ⟨hc, ρ2, e2⟩
    · have e : forL b g (f i :: l.map f) ρ = forL b g (l.map f) ρ2 := by
        conv => lhs; unfold forL
        rw [e1]
        dsimp only
        rw [e2, bind_ok]
      rw [e, List.find?_cons_of_neg (by simp [hc])]
      exact forL_search l ρ2 h3 fun j hj => st j (List.mem_cons_of_mem _ hj)
    · refine .inr ⟨i, List.find?_cons_of_pos hc, ρ2, ?_⟩
      unfold forL
      rw [e1]
      dsimp only
      rw [e2, bind_ok]
end
theorem rangeD1 {j : Int} (h0 : 0 ≤ j) (h : j ≤ 16777216) : rangeD [.int j] = some ((List.range j.toNat).map fun i => .int ((i : Nat) : Int)) := by
  show (if j.toNat ≤ 16777216 ∧ j.natAbs ≤ 4611686018427387904 then some (rngI 0 j.toNat) else none) = _
  rw [if_pos ⟨by omega, by omega⟩]
  unfold rngI
  congr 1
  exact List.map_congr_left fun i _ => by rw [Int.zero_add]
theorem rangeD2 {i j : Int} (h0 : -16777216 ≤ i) (h1 : j ≤ 16777216) (h2 : -16777216 ≤ j) (h3 : i ≤ 16777216) (h : j - i ≤ 16777216) : rangeD [.int i, .int j] = some ((List.range (j - i).toNat).map fun k => .int (i + ((k : Nat) : Int))) := by
  show (if (j - i).toNat ≤ 16777216 ∧ lim62 i = true ∧ lim62 j = true then some (rngI i (j - i).toNat) else none) = _
  have l : ∀ k : Int, -16777216 ≤ k → k ≤ 16777216 → lim62 k = true := fun k a b => by
    unfold lim62
    exact decide_eq_true (by omega)
  rw [if_pos ⟨by omega, l i h0 h3, l j h2 h1⟩]
  rfl
end SW

set_option maxRecDepth 100000
/-! SW13: comprehensions inside comprehensions. -/
namespace SW
open PySem PySem.Spec PyProof.Rows L2
theorem lookup_re {f : Str × NameKind → Str × NameKind} (hf : ∀ n k, f (n, k) = (n, k) ∨ (k = .free ∧ f (n, k) = (n, .cell))) : ∀ {ns : List (Str × NameKind)} {x : Str}, (ns.lookup x = some .cell ∨ ns.lookup x = some .free) → (ns.map f).lookup x = some .cell ∨ (ns.map f).lookup x = some .free
  | [], x, h => by simp at h
  | (n, k) :: ns, x, h => by
    rw [List.map_cons]
    by_cases e : x = n
    · subst e
      rw [List.lookup_cons, beq_self_eq_true] at h
      rcases hf x k with q | ⟨q1, q2⟩
      · rw [q, List.lookup_cons, beq_self_eq_true]
        exact h
      · rw [q2, List.lookup_cons, beq_self_eq_true]
        exact .inl rfl
    · have en : (x == n) = false := by simpa using e
      rw [List.lookup_cons, en] at h
      have ih := lookup_re hf h
      rcases hf n k with q | ⟨q1, q2⟩
      · rw [q, List.lookup_cons, en]; exact ih
      · rw [q2, List.lookup_cons, en]; exact ih
theorem blkOk_in {N : List Str} {sc scope : Scope} {env : Env} {own : List (Str × Nat)} (h : blkC N sc scope own = true) : BlkOk N (relabel sc env) scope own := by
  have b := blkOk_by h
  refine ⟨b.kind, b.uniq, b.ix, fun y hy e => ?_, b.own⟩
  refine lookup_re (fun n k => ?_) (b.free y hy e)
  dsimp only
  split
  · rename_i hc
    rw [Bool.and_eq_true, Bool.and_eq_true] at hc
    refine .inr ⟨?_, rfl⟩
    have h1 := hc.1.1
    cases k <;> first | rfl | cases h1
  · exact .inl rfl
end SW

set_option maxRecDepth 100000
/-! SW14: chained comparisons. -/
namespace SW
open PySem PySem.Spec PyProof.Rows L2
section
variable {X : Cx} {W : WX} {os os1 os2 : Os} {e1 e2 e3 : Expr} {f1 f2 f3 : Rho → Out (D × Rho)} {pos : Pos}
def eChain (g g' : D → D → Option D) (f1 f2 f3 : Rho → Out (D × Rho)) : Rho → Out (D × Rho) := fun ρ =>
  (f1 ρ).bind fun p => (f2 p.2).bind fun q => (Out.of (g p.1 q.1)).bind fun c => match c with
    | .bl true => (f3 q.2).bind fun r => (Out.of (g' q.1 r.1)).bind fun c2 => .ok (c2, r.2)
    | .bl false => .ok (.bl false, q.2)
    | _ => .stuck
theorem chain_both {op op' : CmpOp} {g g' : D → D → Option D} (ho : Op2 X (compareOp op) g) (ho' : Op2 X (compareOp op') g') (ha : VE X W os e1 f1 os1 false) (hb : VE X W os1 e2 f2 os2 false) (hc : VE X W os2 e3 f3 os2 false)
    (hm : lastMarks [op, op'] [e2, e3] = false := by with_unfolding_all rfl) : ∃ t, PE X (.Compare e1 [op, op'] [e2, e3] pos) t ∧ PT X (.Compare e1 [op, op'] [e2, e3] pos) (tTest t) ∧
    ∀ S σ H ρ Q, Rel X.K S H os σ ρ → Post X W S H os σ os2 (RV X.K false) Q (eChain g g' f1 f2 f3 ρ) → t σ H Q := by
  obtain ⟨ta, pa, ka⟩ := ha
  obtain ⟨tb, pb, kb⟩ := hb
  obtain ⟨tc, pc, kc⟩ := hc
  obtain ⟨rr, po, ko⟩ := ho
  obtain ⟨rr', po', ko'⟩ := ho'
  refine ⟨_, pe_chain po po' pa pb pc hm, pt_chain po po' pa pb pc hm, fun S σ H ρ Q rel P => ?_⟩
  refine ka S σ H ρ _ rel (Post.seq P (fun z => z) (fun c fs p => p) fun d ρ1 v S1 H1 st1 rel1 q1 P1 => ?_)
  have P1 := P1.step RV.ok st1
  refine kb S1 σ H1 ρ1 _ rel1 (Post.seq P1 (fun z => z) (fun c fs p => p) fun d2 ρ2 v2 S2 H2 st2 rel2 q2 P2 => ?_)
  have P2 := P2.step RV.ok st2
  dsimp only at P2
  cases hg : g d d2 with
  | none => rw [hg] at P2; exact P2.elim
  | some c =>
    rw [hg] at P2
    refine ko S2 H2 v v2 d d2 c _ rel2.sub (At.mono st2.ext.s q1) q2 hg fun z S3 H3 x hat => ?_
    have P3 := P2.step RV.ok (Stp.of_ext x)
    have rel3 := rel2.ext0 x
    cases hat with
    | bl b =>
      cases b with
      | true =>
        refine ⟨true, rfl, ?_⟩
        rw [if_pos rfl]
        refine kc S3 σ H3 ρ2 _ rel3 (Post.seq P3 (fun z => z) (fun c fs p => p) fun d3 ρ3 v3 S4 H4 st4 rel4 q4 P4 => ?_)
        obtain ⟨c2, hc2, k⟩ := post_of (P4.step RV.ok st4) rel4
        exact ko' S4 H4 v2 v3 d2 d3 c2 _ rel4.sub (At.mono st4.ext.s (At.mono x.s q2)) q4 hc2 k
      | false =>
        refine ⟨false, rfl, ?_⟩
        rw [if_neg Bool.false_ne_true]
        exact P3.fin (os' := os2) rel3 (.bl false)
    | _ => exact P3.elim
theorem ve_chain {op op' : CmpOp} {g g' : D → D → Option D} (ho : Op2 X (compareOp op) g) (ho' : Op2 X (compareOp op') g') (ha : VE X W os e1 f1 os1 false) (hb : VE X W os1 e2 f2 os2 false) (hc : VE X W os2 e3 f3 os2 false)
    (hm : lastMarks [op, op'] [e2, e3] = false := by with_unfolding_all rfl) : VE X W os (.Compare e1 [op, op'] [e2, e3] pos) (eChain g g' f1 f2 f3) os2 false := by
  obtain ⟨t, p, _, k⟩ := chain_both (pos := pos) ho ho' ha hb hc hm
  exact ⟨t, p, k⟩
theorem vt_chain {op op' : CmpOp} {g g' : D → D → Option D} (ho : Op2 X (compareOp op) g) (ho' : Op2 X (compareOp op') g') (ha : VE X W os e1 f1 os1 false) (hb : VE X W os1 e2 f2 os2 false) (hc : VE X W os2 e3 f3 os2 false)
    (hm : lastMarks [op, op'] [e2, e3] = false := by with_unfolding_all rfl) : VT X W os (.Compare e1 [op, op'] [e2, e3] pos) (tVal (eChain g g' f1 f2 f3)) os2 := by
  obtain ⟨t, _, p, k⟩ := chain_both (pos := pos) ho ho' ha hb hc hm
  refine ⟨_, p, fun S σ H ρ Q rel P => ?_⟩
  refine k S σ H ρ _ rel (Post.seq P (fun z => z) (fun c fs p => p) fun d ρ1 v S1 H1 st1 rel1 q1 P1 => ?_)
  cases q1 with
  | bl b => exact ⟨b, rfl, (P1.step RB.ok st1).fin (os' := os2) rel1 rfl⟩
  | _ => exact P1.elim
end
end SW

set_option maxRecDepth 100000
/-! SW15: a caught error kept as a value. -/
namespace SW
open PySem PySem.Spec PyProof.Rows L2
theorem exT_ok {P : Program} {w : World} {H : Hp} {h : Heap} {a : Addr} {cls : Value} {d : Option Addr} {oe : Obj} {vs : Array Value} (e : h.get? a = some oe) (z : Zc cls d oe) (hd : oe.data = .fields vs) : ObjOk P w H h a (ExT cls d a) :=
  ⟨⟨oe, vs, e, z, hd⟩, ⟨oe, e⟩, fun _ _ ⟨o, v, q, r⟩ k => ⟨o, v, k o q, r⟩⟩
section
variable {X : Cx} {pins : List (Addr × Obj)} {σ : List (Option V)} {H : Hp} {s : Shared}
theorem Inv.track {a : Addr} {cls : Value} {d : Option Addr} {oe : Obj} {vs : Array Value} (I : Inv X pins σ H s) (e : s.heap.get? a = some oe) (z : Zc cls d oe) (hd : oe.data = .fields vs) (na : H a = none) (n0 : X.s_0.heap.get? a = none) (nL : a ≠ X.env.locals) (nC : ∀ x c, X.env.cells.lookup x = some c → c ≠ a) (np : ∀ p ∈ X.pn ++ pins, p.1 ≠ a) : Inv X pins σ (upd H a (ExT cls d a)) s := by
  have hne : ∀ b u, H b = some u → b ≠ a := fun b u q z => by rw [z, na] at q; cases q
  refine ⟨I.ok, I.os, I.bare, ⟨I.base.keep, I.base.slot, fun b o q n hx => ?_, I.base.there, fun b xs q => ?_, fun b o u q => ?_, fun b ps q => ?_⟩, I.loc, I.cell, ?_, fun x c q => ?_, fun p hp => ?_, fun b ob q => ?_, I.len⟩
  · have hb : b ≠ a := fun z => by rw [z, n0] at q; cases q
    rw [upd_ne hb]; exact I.base.free b o q n hx
  · have := I.base.tups b xs q
    rw [upd_ne (hne _ _ this)]; exact this
  · have := I.base.frzs b o u q
    rw [upd_ne (hne _ _ this)]; exact this
  · obtain ⟨more, this⟩ := I.base.tbls b ps q
    exact ⟨more, by rw [upd_ne (hne _ _ this)]; exact this⟩
  · rw [upd_ne (Ne.symm nL)]; exact I.free
  · rw [upd_ne (nC x c q)]; exact I.freeC x c q
  · obtain ⟨p1, p2, p3⟩ := I.pin p hp
    exact ⟨p1, by rw [upd_ne (np p hp)]; exact p2, p3⟩
  · by_cases hb : b = a
    · subst hb
      rw [upd_same] at q
      cases q
      exact exT_ok e z hd
    · rw [upd_ne hb] at q
      exact (I.hok b ob q).stay (fun c w' hc q => q) (fun c q => by rw [upd_ne (hne _ _ q)]; exact q) fun c xs q => by rw [upd_ne (hne _ _ q)]; exact q
/-- what the clause wishes: each error that the body raises is of its class, and stays known behind the suite -/
def wKeep (K : PySem.W.Frag) (c : Value) (i : Nat) (ts : Addr → Value → Option Addr → TS) (D : Ends) : WX := fun cls d σ H =>
  PySem.W.exmOne K cls c = some true ∧ (∀ a, H a = none → ts a cls d ⟨fun τ G => D.nx (τ.set i none) (upd G a (ExT cls d a)), fun v G => D.rt v (upd G a (ExT cls d a)), fun τ G => D.bk (τ.set i none) (upd G a (ExT cls d a)), fun τ G => D.ct (τ.set i none) (upd G a (ExT cls d a))⟩ (σ.set i (some (.ref a))) H)
theorem ps_try_keep {x n : Str} {c : Value} {i : Nat} {body suite : List Stmt} {b₀ : Stmt} {np pos pos' : Pos} {tb : WX → TS} {ts : Addr → Value → Option Addr → TS}
    (hs : X.stack = X.env :: X.outer) (hf : X.env.frame = some X.env.locals) (hN : X.N.Nodup) (hi : X.N[i]? = some n) (hln : X.env.kindOf n = some .local) (hc : Names X x c) (hex : X.ex = [])
    (hb : ∀ (W : WX) (pn : List (Addr × Obj)) (xe : Value → Shared → Prop), Takes (X.tr pn xe) W → PassesOwn (model X.prog X.w) X.A X.env xe → PSs (X.tr pn xe) body (tb W))
    (hsu : ∀ (a : Addr) (oe : Obj) (cls : Value) (d : Option Addr) (pn : List (Addr × Obj)), Zc cls d oe → (∃ vs, oe.data = .fields vs) → PSs (X.suite a ((a, oe) :: pn)) (b₀ :: suite) (ts a cls d)) :
    PS X (.Try body [.ExceptHandler (some (.Name x np)) (some n) (b₀ :: suite) pos'] [] [] pos) (fun D σ H => tb (wKeep X.K c i ts D) D σ H) := by
  refine ⟨fun pins s σ H D I h => ?_⟩
  have okX := I.ok
  have frX : X.A.frames = some (X.env :: X.outer) := by rw [okX.frames, hs]
  refine wpAny_Try_except (wpAny_mono ((hb (wKeep X.K c i ts D) (X.pn ++ pins) (fun e s₁ => wpAny (model X.prog X.w) X.A (noteFrame e X.env) (fun _ s₂ => wpAny (model X.prog X.w) X.A (setFlight e none) (fun _ s₃ =>
    wpAny (model X.prog X.w) X.A (handleBy e X.env [.ExceptHandler (some (.Name x np)) (some n) (b₀ :: suite) pos']) (SP X pins D) X.xe s₃) X.xe s₂) X.xe s₁) (fun u s' up0 => ?_) PassesOwn.looking).run [] s σ H D (I.toTry _) h) (fun f s1 fin => ?_) (fun _ _ z => z))
  · obtain ⟨a, B, sI, pins0, σ1, H1, cls, d, rfl, J0, nb, lift, air, na, hos, hag, hb1, yes⟩ := up0
    have J : Inv X pins σ1 H1 sI := J0.ofTry okX
    rw [hs] at air nb
    show wpAny (model X.prog X.w) X.A (noteFrame (.ref a) X.env) _ _ _
    refine Sky.land Zc.steady frX hf air fun h3 fl3 lift3 => ?_
    have J3 : Inv X pins σ1 H1 { s' with heap := h3 } := J.landed (by rw [hs]; exact nb) fl3.1 (lift.trans lift3) hos hag
    obtain ⟨oe3, vs3, he3, hz3, hd3⟩ := fl3.there
    have out : a ∉ frs (X.env :: X.outer) := fun hm => by
      obtain ⟨_, o', e', hnf⟩ := fl3.2.2.1.mem hm
      rw [he3] at e'; cases e'
      exact hnf _ hd3
    have aI : sI.heap.get? a = none := by
      cases e : sI.heap.get? a with
      | none => rfl
      | some o =>
        have q := nb a o e out
        rw [fl3.2.1] at q; cases q
    have a0 : X.s_0.heap.get? a = none := by
      cases e : X.s_0.heap.get? a with
      | none => rfl
      | some o =>
        obtain ⟨o', q⟩ := J.base.there a o e (by rw [hex]; simp)
        rw [aI] at q; cases q
    have aC : ∀ y k, X.env.cells.lookup y = some k → k ≠ a := fun y k e z => by
      obtain ⟨v, o, q, _⟩ := J.cell y k e
      rw [z, aI] at q; cases q
    have aP : ∀ p ∈ X.pn ++ pins, p.1 ≠ a := fun p hp z => by
      have q := (J.pin p hp).1
      rw [z, aI] at q; cases q
    have aL : a ≠ X.env.locals := fun z => out (List.mem_filterMap.mpr ⟨X.env, List.mem_cons_self, by rw [hf, z]⟩)
    have aF : a ∉ X.fs := fun hm => by
      obtain ⟨e, he, q⟩ := List.mem_filterMap.mp hm
      exact out (List.mem_filterMap.mpr ⟨e, List.mem_cons_of_mem _ he, q⟩)
    have Su := J3.suite he3 hd3 na aL aF
    refine wpAny_handleBy_cons (codeAny_handlers_test ?_) (by intro z; cases z)
    have kind : PySem.W.Looks (model X.prog X.w) h3 (typeOf (.ref a)) cls := fun A' Q' E' t k q => wpAny_typeOf_ref (k _ _ he3) (by rw [hz3.1]; exact q)
    have meets := PySem.W.exm_one (M := model X.prog X.w) J3.kIn kind hb1
    have named : ∀ {Q' : Value → Shared → Prop} {E' : Value → Shared → Prop}, Q' c { s' with heap := h3 } → wpAny (model X.prog X.w) (X.A.mark (some (.ref a))) (eval (.Name x np) X.env) Q' E' { s' with heap := h3 } := fun {Q' E'} q => by
      obtain ⟨hg, hdb, hm | ⟨hm, hv, hnn⟩⟩ := hc
      · exact ld_glob (X := X.suite a ((a, oe3) :: (X.pn ++ pins))) Su hg hm q hdb
      · exact ld_blt (X := X.suite a ((a, oe3) :: (X.pn ++ pins))) Su hg hm hv q hnn hdb
    refine named (meets.here ?_)
    refine codeAny_handlers_suite_as ?_
    refine HandSPX.lands_againZ fl3 fun h4 fl4 lift4 => ?_
    have J4 : Inv X pins σ1 H1 { s' with heap := h4 } := J.landed (by rw [hs]; exact nb) fl4.1 ((lift.trans lift3).trans lift4) hos hag
    obtain ⟨oe4, vs4, he4, hz4, hd4⟩ := fl4.there
    have Sv := J4.suite he4 hd4 na aL aF
    refine store_ok (X := X.suite a ((a, oe4) :: (X.pn ++ pins))) (v := .ref a) Sv hN hi (.inl hln) rfl (fun s5 S5 => ?_) (.inr hln)
    refine wpAny_mono ((hsu a oe4 cls d (X.pn ++ pins) hz4 ⟨_, hd4⟩).run [] s5 _ H1 _ S5 (yes a na)) (fun f s6 fin => ?_) (fun _ _ z => False.elim z)
    have goes : ∀ {τ : L2.St} {G : Hp} {Q' : Shared → Prop}, Inv (X.suite a ((a, oe4) :: (X.pn ++ pins))) [] τ G s6 → (∀ s7, Inv X pins (τ.set i none) (upd G a (ExT cls d a)) s7 → Q' s7) →
        wpAny (model X.prog X.w) X.A (do bindName X.env n .none; unbindBehindTheSuite X.env n pos') (fun _ s7 => Q' s7) X.xe s6 := fun {τ G Q'} S6 hq => by
      obtain ⟨p1, p2, _⟩ := S6.pin (a, oe4) (List.mem_append_left _ List.mem_cons_self)
      exact gone_ok (Inv.track (S6.unsuite okX) p1 hz4 hd4 p2 a0 aL aC aP) hN hi hln hq
    cases f with
    | next => obtain ⟨τ, G, S6, q6⟩ := fin; exact goes S6 fun s7 J7 => ⟨_, _, J7, q6⟩
    | brk => obtain ⟨τ, G, S6, q6⟩ := fin; exact goes S6 fun s7 J7 => ⟨_, _, J7, q6⟩
    | cont => obtain ⟨τ, G, S6, q6⟩ := fin; exact goes S6 fun s7 J7 => ⟨_, _, J7, q6⟩
    | ret u => obtain ⟨v6, τ, G, S6, r6, q6⟩ := fin; exact goes S6 fun s7 J7 => ⟨_, _, _, J7, r6, q6⟩
  · cases f with
    | next => obtain ⟨σ', H', K', q⟩ := fin; exact wpAny_execs_nil ⟨σ', H', K'.ofTry okX, q⟩
    | brk => obtain ⟨σ', H', K', q⟩ := fin; exact ⟨σ', H', K'.ofTry okX, q⟩
    | cont => obtain ⟨σ', H', K', q⟩ := fin; exact ⟨σ', H', K'.ofTry okX, q⟩
    | ret u => obtain ⟨v, σ', H', K', r, q⟩ := fin; exact ⟨v, σ', H', K'.ofTry okX, r, q⟩
/-- isinstance of an error that is kept -/
def rIsX (K : PySem.W.Frag) : List V → Hp → VK → Prop := fun xs H Q => ∃ (a C : Addr) (t : V) (tv : Value) (b : Bool), xs = [.ref a, t] ∧ H a = some (ExT (.ref C) none a) ∧ ExcC K C ∧ (∀ u, RelV t u → u = tv) ∧ PySem.W.kitOne K (.ref C) tv = some b ∧ Q (.bl b) H
theorem call_isX : CallR X (.builtin "isinstance") (rIsX X.K) := by
  intro pins s σ H xs us Q I r h
  obtain ⟨a, C, t, tv, b, rfl, hH, hC, ht, hk, q⟩ := h
  match us, r with
  | _, .cons ra (.cons rt .nil) =>
    cases ra
    have et := ht _ rt
    subst et
    obtain ⟨⟨oe, vs, hget, hz, hv⟩, -, -⟩ := I.hok a _ hH
    have J : PySem.W.InstAt s.heap a oe C none := by
      obtain ⟨k1, k2, k3, k4⟩ := oe
      obtain ⟨h1, h2⟩ := hz
      dsimp only at h1 h2 hv
      subst h1 h2 hv
      exact ⟨hget, rfl, rfl, trivial⟩
    exact PySem.W.kia_one (PySem.W.handS_kitx_exc hC.hg hC.hk hC.hs hC.hd hC.ha hC.hn hC.ht hC.hm) I.kIn J hk (fun z => nomatch z) fun tk => ⟨.bl b, H, I.kept (t' := tk) fun _ _ z => z, rfl, q⟩
end
end SW

set_option maxRecDepth 100000
/-! SW16: dicts: keys by data; d[k], k in d, d.get, d.pop, d[k] = v, len(d), loops over d. -/
namespace SW
open PySem PySem.Spec PyProof.Rows L2

/-! ### keys -/
mutual
theorem keyB_keyD : ∀ {d : D} {k : NestedKey}, keyD d = some k → keyB k = d
  | .non, _, e => by cases e; rfl
  | .int i, _, e => by cases e; rfl
  | .tup ds, k, e => by
    unfold keyD at e
    cases q : keyDs ds with
    | none => rw [q] at e; cases e
    | some ks => rw [q] at e; cases e; unfold keyB; rw [keyBs_keyDs q]
  | .bl _, _, e => by cases e
  | .str _, _, e => by cases e
  | .lst _, _, e => by cases e
  | .dct _, _, e => by cases e
  | .ins _ _, _, e => by cases e
  | .exc _ _, _, e => by cases e
  | .scr _, _, e => by cases e
  | .ty _, _, e => by cases e
theorem keyBs_keyDs : ∀ {ds : List D} {ks : List NestedKey}, keyDs ds = some ks → keyBs ks = ds
  | [], _, e => by cases e; rfl
  | d :: ds, ks, e => by
    unfold keyDs at e
    cases q1 : keyD d with
    | none => rw [q1] at e; cases e
    | some k =>
      cases q2 : keyDs ds with
      | none => rw [q1, q2] at e; cases e
      | some ks' => rw [q1, q2] at e; cases e; unfold keyBs; rw [keyB_keyD q1, keyBs_keyDs q2]
end
def KFree (k : NestedKey) : Prop := ∀ w w', NestedKey.hash w k = NestedKey.hash w' k
mutual
theorem keyD_free : ∀ {d : D} {k : NestedKey}, keyD d = some k → KFree k
  | .non, _, e => by cases e; exact fun _ _ => rfl
  | .int i, _, e => by cases e; exact fun _ _ => rfl
  | .tup ds, k, e => by
    unfold keyD at e
    cases q : keyDs ds with
    | none => rw [q] at e; cases e
    | some ks =>
      rw [q] at e
      cases e
      intro w w'
      unfold NestedKey.hash
      rw [keyDs_free q w w']
  | .bl _, _, e => by cases e
  | .str _, _, e => by cases e
  | .lst _, _, e => by cases e
  | .dct _, _, e => by cases e
  | .ins _ _, _, e => by cases e
  | .exc _ _, _, e => by cases e
  | .scr _, _, e => by cases e
  | .ty _, _, e => by cases e
theorem keyDs_free : ∀ {ds : List D} {ks : List NestedKey}, keyDs ds = some ks → ∀ w w', NestedKey.hashes w ks = NestedKey.hashes w' ks
  | [], _, e => by cases e; exact fun _ _ => rfl
  | d :: ds, ks, e => by
    unfold keyDs at e
    cases q1 : keyD d with
    | none => rw [q1] at e; cases e
    | some k =>
      cases q2 : keyDs ds with
      | none => rw [q1, q2] at e; cases e
      | some ks' =>
        rw [q1, q2] at e
        cases e
        intro w w'
        unfold NestedKey.hashes
        rw [keyD_free q1 w w', keyDs_free q2 w w']
end
theorem keyT_some {d : D} {k : NestedKey} (h : keyT d = some k) : ∃ ds, d = .tup ds ∧ keyD (.tup ds) = some k ∧ k.depth ≤ 8 := by
  unfold keyT at h
  split at h
  · rename_i ds
    split at h
    · rename_i k' hk
      split at h
      · rename_i hd
        cases h
        exact ⟨ds, rfl, hk, hd⟩
      · cases h
    · cases h
  · cases h
theorem keyT_of {ds : List D} {k : NestedKey} (h : keyD (.tup ds) = some k) (hd : k.depth ≤ 8) : keyT (.tup ds) = some k := by
  show (match keyD (.tup ds) with | some k => if k.depth ≤ 8 then some k else none | none => none) = some k
  rw [h]
  exact if_pos hd
theorem keyT_back {d : D} {k : NestedKey} (h : keyT d = some k) : keyT (keyB k) = some k := by
  obtain ⟨ds, rfl, h1, h2⟩ := keyT_some h
  rw [keyB_keyD h1]
  exact keyT_of h1 h2
theorem keyT_B {d : D} {k : NestedKey} (h : keyT d = some k) : keyB k = d := by
  obtain ⟨ds, rfl, h1, h2⟩ := keyT_some h
  exact keyB_keyD h1

section
variable {X : Cx} {pins : List (Addr × Obj)} {σ : L2.St} {H S : Hp} {s : Shared}
mutual
theorem At.nest (I : Inv X pins σ H s) (sub : Same S H) : ∀ {v : V} {d : D} {k : NestedKey} {u : Value}, At X.K S v d → keyD d = some k → RelV v u → NestedIs s.heap k u
  | _, .non, _, _, .non, e, r => by cases e; cases r; exact .none
  | _, .int _, _, _, .int i, e, r => by cases e; obtain ⟨t, rfl⟩ := r; exact .int i t
  | _, .tup ds, k, u, .tup (a := a) (vs := vs) h z q, e, r => by
    unfold keyD at e
    cases q1 : keyDs ds with
    | none => rw [q1] at e; cases e
    | some ks =>
      rw [q1] at e
      cases e
      obtain ⟨its, rv, ⟨o, ho, hc, n, hd⟩, _⟩ := I.tuple (sqT_mono sub h)
      cases (show u = Value.ref a from r)
      exact .tup ho hc hd (by simpa using AtL.nest I sub q q1 rv)
  | _, .bl _, _, _, _, e, _ => by cases e
  | _, .str _, _, _, _, e, _ => by cases e
  | _, .lst _, _, _, _, e, _ => by cases e
  | _, .dct _, _, _, _, e, _ => by cases e
  | _, .ins _ _, _, _, _, e, _ => by cases e
  | _, .exc _ _, _, _, _, e, _ => by cases e
  | _, .scr _, _, _, _, e, _ => by cases e
  | _, .ty _, _, _, _, e, _ => by cases e
theorem AtL.nest (I : Inv X pins σ H s) (sub : Same S H) : ∀ {vs : List V} {ds : List D} {ks : List NestedKey} {us : List Value}, AtL X.K S vs ds → keyDs ds = some ks → Vals vs us → NestedAll s.heap ks us
  | _, [], _, _, .nil, e, .nil => by cases e; exact .nil
  | _, d :: ds, ks, _, .cons h t, e, .cons r rs => by
    unfold keyDs at e
    cases q1 : keyD d with
    | none => rw [q1] at e; cases e
    | some k =>
      cases q2 : keyDs ds with
      | none => rw [q1, q2] at e; cases e
      | some ks' =>
        rw [q1, q2] at e
        cases e
        exact .cons (At.nest I sub h q1 r) (AtL.nest I sub t q2 rs)
end
end
/-- at b stands a tuple that is the key k -/
def KeyAt (K : PySem.W.Frag) (H : Hp) (b : Addr) (k : NestedKey) : Prop := ∃ S d, Same S H ∧ At K S (.ref b) d ∧ keyT d = some k
theorem KeyAt.is {X : Cx} {pins : List (Addr × Obj)} {σ : L2.St} {H : Hp} {s : Shared} {b : Addr} {k : NestedKey} (I : Inv X pins σ H s) (h : KeyAt X.K H b k) : (nestedKind X.prog X.w).is s.heap k b := by
  obtain ⟨S, d, sub, hat, e⟩ := h
  obtain ⟨ds, rfl, h1, h2⟩ := keyT_some e
  exact ⟨At.nest I sub hat h1 rfl, h2⟩

/-! ### tables by V -/
abbrev XL := List (NestedKey × Addr × V)
abbrev XR : XL → List (NestedKey × Addr × Value) → Prop := Paired fun p q => p.1 = q.1 ∧ p.2.1 = q.2.1 ∧ RelV p.2.2 q.2.2
def valX (xs : XL) (k : NestedKey) : Option V := (xs.find? fun p => decide (p.1 = k)).map (·.2.2)
def storeX (xs : XL) (k : NestedKey) (b : Addr) (v : V) : XL := if (valX xs k).isSome = true then xs.map (fun p => if p.1 = k then (p.1, p.2.1, v) else p) else xs ++ [(k, b, v)]
def dropX (xs : XL) (k : NestedKey) : XL := xs.filter fun p => decide (p.1 ≠ k)
def valD (ds : List (NestedKey × D)) (k : NestedKey) : Option D := (ds.find? fun p => decide (p.1 = k)).map (·.2)
def putD (ds : List (NestedKey × D)) (k : NestedKey) (d : D) : List (NestedKey × D) := if (valD ds k).isSome = true then ds.map (fun p => if p.1 = k then (p.1, d) else p) else ds ++ [(k, d)]
def dropD (ds : List (NestedKey × D)) (k : NestedKey) : List (NestedKey × D) := ds.filter fun p => decide (p.1 ≠ k)

theorem XR.val {xs : XL} {ys : List (NestedKey × Addr × Value)} (r : XR xs ys) (k : NestedKey) : RelO (valX xs k) ((atKey ys k).map (·.2)) := by
  induction r with
  | nil => exact True.intro
  | @cons p q ps qs h t ih =>
    obtain ⟨h1, _, h2⟩ := h
    unfold valX atKey at *
    rw [List.find?_cons, List.find?_cons]
    by_cases e : p.1 = k
    · rw [decide_eq_true e, decide_eq_true (h1.symm.trans e)]; exact h2
    · rw [decide_eq_false e, decide_eq_false (fun z => e (h1.trans z))]; exact ih
theorem XR.store {xs : XL} {ys : List (NestedKey × Addr × Value)} (r : XR xs ys) (k : NestedKey) (b : Addr) {v : V} {u : Value} (rv : RelV v u) : XR (storeX xs k b v) (storedH ys k b u) := by
  have e : (valX xs k).isSome = (atKey ys k).isSome := by rw [(r.val k).isSome_eq, Option.isSome_map]
  unfold storeX storedH
  rw [e]
  by_cases q : (atKey ys k).isSome = true
  · rw [if_pos q, if_pos q]
    clear e q
    induction r with
    | nil => exact .nil
    | @cons p q ps qs h t ih =>
      rw [List.map_cons, List.map_cons]
      refine .cons ?_ ih
      obtain ⟨h1, h2, h3⟩ := h
      unfold putAt
      by_cases e : p.1 = k
      · rw [if_pos e, if_pos (h1.symm.trans e)]; exact ⟨h1, h2, rv⟩
      · rw [if_neg e, if_neg (fun z => e (h1.trans z))]; exact ⟨h1, h2, h3⟩
  · rw [if_neg q, if_neg q]; exact Paired.snoc r ⟨rfl, rfl, rv⟩
theorem XR.drop {xs : XL} {ys : List (NestedKey × Addr × Value)} (r : XR xs ys) (k : NestedKey) : XR (dropX xs k) (withoutH ys k) := by
  unfold dropX withoutH
  induction r with
  | nil => exact .nil
  | @cons p q ps qs h t ih =>
    obtain ⟨h1, h2, h3⟩ := h
    rw [List.filter_cons, List.filter_cons]
    by_cases e : p.1 = k
    · have a : ¬ decide (p.1 ≠ k) = true := by simp [e]
      have b : ¬ decide (q.1 ≠ k) = true := by simp [h1.symm.trans e]
      rw [if_neg a, if_neg b]; exact ih
    · have e' : ¬ q.1 = k := fun z => e (h1.trans z)
      have a : decide (p.1 ≠ k) = true := by simp [e]
      have b : decide (q.1 ≠ k) = true := by simp [e']
      rw [if_pos a, if_pos b]; exact .cons ⟨h1, h2, h3⟩ ih
theorem entries_xr {P : Program} {w : World} : ∀ {es : List DictEntry} {xs : XL}, EnL es xs → ∃ ys, XR xs ys ∧ es = ys.map (entryOfKey (nestedKind P w))
  | _, _, .nil => ⟨[], .nil, rfl⟩
  | _, _, .cons (a := en) (b := x) h t => by
    obtain ⟨ys, r, e⟩ := entries_xr (P := P) (w := w) t
    obtain ⟨h1, h2, h3⟩ := h
    refine ⟨(x.1, x.2.1, en.val) :: ys, .cons ⟨rfl, rfl, h3⟩ r, ?_⟩
    rw [List.map_cons, ← e]
    congr 1
    cases en
    dsimp only at h1 h2
    unfold entryOfKey
    dsimp only
    rw [h2, h1 w]
    rfl
theorem xr_entries {P : Program} {w : World} : ∀ {xs : XL} {ys : List (NestedKey × Addr × Value)}, XR xs ys → (∀ p ∈ xs, KFree p.1) → EnL (ys.map (entryOfKey (nestedKind P w))) xs
  | _, _, .nil, _ => .nil
  | _, _, .cons (a := x) (b := y) h t, f => by
    obtain ⟨h1, h2, h3⟩ := h
    rw [List.map_cons]
    refine .cons ⟨fun w' => ?_, ?_, h3⟩ (xr_entries t fun p hp => f p (List.mem_cons_of_mem _ hp))
    · show NestedKey.hash w y.1 = _
      rw [← h1]
      exact f x List.mem_cons_self w w'
    · show Value.ref y.2.1 = _
      rw [h2]
theorem EnL.free {es : List DictEntry} {xs : XL} (h : EnL es xs) : ∀ p ∈ xs, KFree p.1 := by
  induction h with
  | nil => intro p hp; cases hp
  | @cons a b as bs h t ih =>
    intro p hp
    rcases List.mem_cons.mp hp with e | hp
    · subst e
      intro w w'
      rw [← h.1 w, ← h.1 w']
    · exact ih p hp

/-- what is known of the dict at a -/
structure DGood (K : PySem.W.Frag) (H : Hp) (a : Addr) (x : DX) : Prop where
  here : H a = some (DT a x)
  sys : (a == sysModules) = false
  ex : x.o.ExactDict
  nodup : (x.xs.map (·.1)).Nodup
  ens : ∃ es ep, x.o.data = .dict es ep ∧ EnL es.toList x.xs
  len : x.xs.length ≤ sizeLine
  ks : ∀ p ∈ x.xs, KeyAt K H p.2.1 p.1

theorem AtL.split {K : PySem.W.Frag} {S : Hp} : ∀ {vs ws : List V} {ds es : List D}, vs.length = ds.length → AtL K S (vs ++ ws) (ds ++ es) → AtL K S vs ds ∧ AtL K S ws es
  | [], _, [], _, _, h => ⟨.nil, h⟩
  | _ :: _, _, _ :: _, _, e, .cons h t => by
    obtain ⟨a, b⟩ := AtL.split (by simpa using e) t
    exact ⟨.cons h a, b⟩
  | [], _, _ :: _, _, e, _ => by simp at e
  | _ :: _, _, [], _, e, _ => by simp at e
section
variable {K : PySem.W.Frag} {S H : Hp} {a : Addr} {x : DX} {ds : List (NestedKey × D)}
theorem DTok.len (t : DTok a x ds) : x.xs.length = ds.length := by
  have := congrArg List.length t.keys
  simpa using this
theorem dct_split (t : DTok a x ds) (r : AtL K S x.vs (dvs ds)) : AtL K S (x.xs.map fun p => V.ref p.2.1) (ds.map fun p => keyB p.1) ∧ AtL K S (x.xs.map fun p => p.2.2) (ds.map fun p => p.2) :=
  AtL.split (by rw [List.length_map, List.length_map]; exact t.len) r
theorem good_of (h : H a = some (DT a x)) (t : DTok a x ds) (z : ds.length ≤ sizeLine) (r : AtL K S x.vs (dvs ds)) (sub : Same S H) : DGood K H a x where
  here := h
  sys := t.sys
  ex := t.ex
  nodup := t.nodup
  ens := t.ens
  len := by rw [t.len]; exact z
  ks := fun p hp => by
    obtain ⟨j, hj⟩ := List.mem_iff_getElem?.mp hp
    obtain ⟨r1, _⟩ := dct_split t r
    obtain ⟨d, ed, hat⟩ := r1.getV (i := j) (v := .ref p.2.1) (by rw [List.getElem?_map, hj]; rfl)
    have e : (ds.map (·.1))[j]? = some p.1 := by rw [← t.keys, List.getElem?_map, hj]; rfl
    rw [List.getElem?_map] at e ed
    cases q : ds[j]? with
    | none => rw [q] at e; cases e
    | some y =>
      rw [q] at e ed
      have e1 : y.1 = p.1 := Option.some.inj e
      have e2 : keyB y.1 = d := Option.some.inj ed
      rw [← e2, e1] at hat
      exact ⟨S, _, sub, hat, t.kk p hp⟩
theorem find_keys {α β : Type} (f : α → NestedKey) (g : β → NestedKey) (k : NestedKey) : ∀ {xs : List α} {ys : List β}, xs.map f = ys.map g → (∃ j : Nat, (xs.find? fun p => decide (f p = k)) = xs[j]? ∧ (ys.find? fun p => decide (g p = k)) = ys[j]?)
  | [], [], _ => ⟨0, rfl, rfl⟩
  | [], _ :: _, e => by simp at e
  | _ :: _, [], e => by simp at e
  | x :: xs, y :: ys, e => by
    rw [List.map_cons, List.map_cons] at e
    injection e with e1 e2
    by_cases h : f x = k
    · exact ⟨0, by simp [List.find?_cons, h], by simp [List.find?_cons, ← e1, h]⟩
    · obtain ⟨j, h1, h2⟩ := find_keys f g k e2
      exact ⟨j + 1, by simp [List.find?_cons, h, h1], by simp [List.find?_cons, ← e1, h, h2]⟩
theorem val_at (t : DTok a x ds) (r : AtL K S x.vs (dvs ds)) (k : NestedKey) : (∃ v d, valX x.xs k = some v ∧ valD ds k = some d ∧ At K S v d) ∨ (valX x.xs k = none ∧ valD ds k = none) := by
  obtain ⟨_, r2⟩ := dct_split t r
  obtain ⟨j, e1, e2⟩ := find_keys (fun p : NestedKey × Addr × V => p.1) (fun p : NestedKey × D => p.1) k t.keys
  have hl := t.len
  unfold valX valD
  rw [e1, e2]
  cases q : x.xs[j]? with
  | none =>
    have : ds[j]? = none := by
      rw [List.getElem?_eq_none_iff] at q ⊢
      omega
    rw [this]
    exact .inr ⟨rfl, rfl⟩
  | some p =>
    obtain ⟨d, ed, hat⟩ := r2.getV (i := j) (v := p.2.2) (by rw [List.getElem?_map, q]; rfl)
    rw [List.getElem?_map] at ed
    cases q2 : ds[j]? with
    | none => rw [q2] at ed; cases ed
    | some y => rw [q2] at ed; exact .inl ⟨_, _, rfl, ed, hat⟩
end
section
variable {X : Cx} {pins : List (Addr × Obj)} {σ : L2.St} {H : Hp} {s : Shared} {a b : Addr} {x : DX} {k : NestedKey} {A : Around} {E : Value → Shared → Prop} {v : V} {u r : Value}
theorem DGood.dict (g : DGood X.K H a x) (I : Inv X pins σ H s) : ∃ ys, XR x.xs ys ∧ s.heap.DictOfH (nestedKind X.prog X.w) a ys ∧ ys.length ≤ sizeLine ∧ s.heap.get? a = some x.o := by
  have ho : s.heap.get? a = some x.o := (show ObjOk X.prog X.w H s.heap a (DT a x) from I.hok a _ g.here).1
  obtain ⟨es, ep, hd, en⟩ := g.ens
  obtain ⟨ys, r, e⟩ := entries_xr (P := X.prog) (w := X.w) en
  have hk : x.xs.map (·.1) = ys.map (·.1) := by
    clear e en
    have n := g.nodup
    clear n
    generalize x.xs = xs at r
    induction r with
    | nil => rfl
    | cons h t ih => rw [List.map_cons, List.map_cons, ih, h.1]
  refine ⟨ys, r, ⟨x.o, es, ep, ho, g.ex, hd, e, fun y hy => ?_, by rw [← hk]; exact g.nodup⟩, by rw [← Paired.length r]; exact g.len, ho⟩
  have all : ∀ {l : XL} {m : List (NestedKey × Addr × Value)}, XR l m → (∀ p ∈ l, (nestedKind X.prog X.w).is s.heap p.1 p.2.1) → ∀ y ∈ m, (nestedKind X.prog X.w).is s.heap y.1 y.2.1 := by
    intro l m q
    induction q with
    | nil => intro _ y hy; cases hy
    | @cons p q ps qs hq t ih =>
      intro hl y hy
      rcases List.mem_cons.mp hy with e | hy
      · subst e
        have := hl p List.mem_cons_self
        rw [hq.1, hq.2.1] at this
        exact this
      · exact ih (fun p hp => hl p (List.mem_cons_of_mem _ hp)) y hy
  exact all r (fun p hp => (g.ks p hp).is I) y hy
theorem dt_ok {P : Program} {w : World} {h : Heap} (e : h.get? a = some x.o) : ObjOk P w H h a (DT a x) := ⟨e, ⟨_, e⟩, fun _ _ p k => k _ p⟩
theorem DGood.typeIs (g : DGood X.K H a x) (I : Inv X pins σ H s) : s.TypeIs (.ref a) "dict" := by
  obtain ⟨ys, _, d, _, _⟩ := g.dict I
  exact d.typeIs
theorem DGood.noDict (g : DGood X.K H a x) (I : Inv X pins σ H s) : ∀ c, Value.ref a = .ref c → ∃ ob, s.heap.get? c = some ob ∧ ob.dict = none := fun c e => by
  cases e
  obtain ⟨ys, _, _, _, ho⟩ := g.dict I
  exact ⟨x.o, ho, g.ex.2.1⟩
theorem roomN (hu : A.units + 64 < cLine) : (nestedKind X.prog X.w).room A.in1 := by
  show A.units + 1 + 8 < cLine
  omega
/-- d[k], there -/
theorem dn_getItem {Q : Value → Shared → Prop} (hu : A.units + 64 < cLine) (I : Inv X pins σ H s) (g : DGood X.K H a x) (hk : KeyAt X.K H b k) (l : valX x.xs k = some v) (h : ∀ w' s', Inv X pins σ H s' → RelV v w' → Q w' s') :
    wpAny (model X.prog X.w) A (getItem (.ref a) (.ref b)) Q E s := by
  obtain ⟨ys, rel, dd, z, _⟩ := g.dict I
  obtain ⟨w', hw, rw'⟩ := RelO.some_of (v := v) (o := (atKey ys k).map (·.2)) (by rw [← l]; exact rel.val k)
  obtain ⟨p, hp, hp2⟩ := Option.map_eq_some_iff.mp hw
  refine wpAny_getItem_heap (roomN (X := X) hu) (hk.is I) dd hp ?_
  rw [hp2]
  exact h w' _ (I.tok _) rw'
theorem dn_in {Q : Value → Shared → Prop} (hu : A.units + 64 < cLine) (I : Inv X pins σ H s) (g : DGood X.K H a x) (hk : KeyAt X.K H b k) (h : ∀ s', Inv X pins σ H s' → Q (.bool (valX x.xs k).isSome) s') :
    wpAny (model X.prog X.w) A (compareOp .In (.ref b) (.ref a)) Q E s := by
  obtain ⟨ys, rel, dd, z, _⟩ := g.dict I
  refine wpAny_in_heap (roomN (X := X) hu) (hk.is I) g.sys dd ?_
  have q := (rel.val k).isSome_eq
  rw [Option.isSome_map] at q
  rw [← q]
  exact h _ (I.tok _)
theorem dn_notIn {Q : Value → Shared → Prop} (hu : A.units + 64 < cLine) (I : Inv X pins σ H s) (g : DGood X.K H a x) (hk : KeyAt X.K H b k) (h : ∀ s', Inv X pins σ H s' → Q (.bool (!(valX x.xs k).isSome)) s') :
    wpAny (model X.prog X.w) A (compareOp .NotIn (.ref b) (.ref a)) Q E s := by
  obtain ⟨ys, rel, dd, z, _⟩ := g.dict I
  refine wpAny_notIn_heap (roomN (X := X) hu) (hk.is I) g.sys dd ?_
  have q := (rel.val k).isSome_eq
  rw [Option.isSome_map] at q
  rw [← q]
  exact h _ (I.tok _)
/-- d.get(k, z) -/
theorem dn_get2 {d : V} {Q : Value → Shared → Prop} (hu : A.units + 64 < cLine) (I : Inv X pins σ H s) (g : DGood X.K H a x) (hk : KeyAt X.K H b k) (rd : RelV d r) (h : ∀ w' s', Inv X pins σ H s' → RelV ((valX x.xs k).getD d) w' → Q w' s') :
    wpAny (model X.prog X.w) A (call (.builtin "dict.get") [.ref a, .ref b, r]) Q E s := by
  obtain ⟨ys, rel, dd, z, _⟩ := g.dict I
  exact call_meetsIn PySem.F.slot_dict_get dd.typeIs PySem.F.entry_dict_get (PySem.F.args_dict_get_3 _ _ _) (meetsH_dict_get_default (nestedKind X.prog X.w) a b g.sys r) ⟨roomN (X := X) hu, k, ys, hk.is I, dd, h _ _ (I.tok _) ((rel.val k).getD rd)⟩
/-- the dict's object and its table are new -/
def NewX (a : Addr) (xs : XL) (y : DX) : Prop := y.xs = xs ∧ (a == sysModules) = false ∧ y.o.ExactDict ∧ (xs.map (·.1)).Nodup ∧ ∃ es ep, y.o.data = .dict es ep ∧ EnL es.toList xs
theorem new_x {h' : Heap} {xs : XL} {ys : List (NestedKey × Addr × Value)} (hs : (a == sysModules) = false) (dd : h'.DictOfH (nestedKind X.prog X.w) a ys) (rel : XR xs ys) (f : ∀ p ∈ xs, KFree p.1) : ∃ y : DX, NewX a xs y ∧ h'.get? a = some y.o := by
  obtain ⟨o, es, ep, ho, hx, hd, he, his, hn⟩ := dd
  clear his
  have hk : xs.map (·.1) = ys.map (·.1) := by
    clear f he hn
    induction rel with
    | nil => rfl
    | cons h t ih => rw [List.map_cons, List.map_cons, ih, h.1]
  exact ⟨⟨o, xs⟩, ⟨rfl, hs, hx, by rw [hk]; exact hn, es, ep, hd, by rw [he]; exact xr_entries rel f⟩, ho⟩
theorem DGood.free (g : DGood X.K H a x) : ∀ p ∈ x.xs, KFree p.1 := by
  obtain ⟨es, ep, _, en⟩ := g.ens
  exact en.free
theorem KeyAt.free (h : KeyAt X.K H b k) : KFree k := by
  obtain ⟨S, d, sub, hat, e⟩ := h
  obtain ⟨ds, rfl, h1, h2⟩ := keyT_some e
  exact keyD_free h1
theorem storeX_mem {xs : XL} {p : NestedKey × Addr × V} (h : p ∈ storeX xs k b v) : p.1 = k ∧ p.2.1 = b ∨ ∃ q ∈ xs, q.1 = p.1 ∧ q.2.1 = p.2.1 := by
  unfold storeX at h
  split at h
  · obtain ⟨q, hq, e⟩ := List.mem_map.mp h
    refine .inr ⟨q, hq, ?_⟩
    split at e <;> subst e <;> exact ⟨rfl, rfl⟩
  · rcases List.mem_append.mp h with h | h
    · exact .inr ⟨p, h, rfl, rfl⟩
    · have : p = (k, b, v) := by simpa using h
      subst this
      exact .inl ⟨rfl, rfl⟩
/-- d[k] = v -/
theorem dn_setItem {Q : Unit → Shared → Prop} (hu : A.units + 64 < cLine) (I : Inv X pins σ H s) (g : DGood X.K H a x) (hk : KeyAt X.K H b k) (rv : RelV v r) (h : ∀ y s', NewX a (storeX x.xs k b v) y → Inv X pins σ (upd H a (DT a y)) s' → Q () s') :
    wpAny (model X.prog X.w) A (setItem (.ref a) (.ref b) r) Q E s := by
  obtain ⟨ys, rel, dd, z, _⟩ := g.dict I
  refine wpAny_setItem_heap (hsz := z) (roomN (X := X) hu) (hk.is I) dd fun h' dd' hs => ?_
  obtain ⟨y, ny, ho⟩ := new_x (X := X) g.sys dd' (rel.store k b rv) fun p hp => by
    rcases storeX_mem hp with ⟨e, _⟩ | ⟨q, hq, e, _⟩
    · rw [e]; exact hk.free
    · rw [← e]; exact g.free q hq
  exact h y _ ny (d_write I (by rw [g.here]; exact True.intro) hs ⟨_, ho⟩ (dt_ok ho))
/-- d.pop(k), there -/
theorem dn_pop {Q : Value → Shared → Prop} (hu : A.units + 64 < cLine) (I : Inv X pins σ H s) (g : DGood X.K H a x) (hk : KeyAt X.K H b k) (l : valX x.xs k = some v) (h : ∀ y w' s', NewX a (dropX x.xs k) y → RelV v w' → Inv X pins σ (upd H a (DT a y)) s' → Q w' s') :
    wpAny (model X.prog X.w) A (call (.builtin "dict.pop") [.ref a, .ref b]) Q E s := by
  obtain ⟨ys, rel, dd, z, _⟩ := g.dict I
  obtain ⟨w', hw, rw'⟩ := RelO.some_of (v := v) (o := (atKey ys k).map (·.2)) (by rw [← l]; exact rel.val k)
  obtain ⟨p, hp, hp2⟩ := Option.map_eq_some_iff.mp hw
  refine call_pop_heap (hsz := z) (.inl rfl) (PySem.F.args_dict_pop_2 _ _) (roomN (X := X) hu) (hk.is I) g.sys dd hp fun h' dd' hs => ?_
  obtain ⟨y, ny, ho⟩ := new_x (X := X) g.sys dd' (rel.drop k) fun p hp => g.free p (List.mem_filter.mp hp).1
  exact h y _ _ ny (by rw [hp2]; exact rw') (d_write I (by rw [g.here]; exact True.intro) hs ⟨_, ho⟩ (dt_ok ho))
/-- len(d) -/
theorem dn_len {Q : Value → Shared → Prop} (I : Inv X pins σ H s) (g : DGood X.K H a x) (h : ∀ t s', Inv X pins σ H s' → Q (.int (x.xs.length : Nat) t) s') : wpAny (model X.prog X.w) A (call (.builtin "len") [.ref a]) Q E s := by
  obtain ⟨ys, rel, dd, z, _⟩ := g.dict I
  refine call_len_dictH g.sys dd (by rw [sizeLine_eq] at z; omega) ?_
  rw [← Paired.length rel]
  exact h _ _ (I.tok _)
end
end SW

set_option maxRecDepth 100000
/-! SW17: dicts in expressions and statements. -/
namespace SW
open PySem PySem.Spec PyProof.Rows L2

/-! ### what is in a dict, entry by entry -/
abbrev XD (K : PySem.W.Frag) (S : Hp) : XL → List (NestedKey × D) → Prop := Paired fun p q => p.1 = q.1 ∧ At K S (.ref p.2.1) (keyB q.1) ∧ At K S p.2.2 q.2
section
variable {K : PySem.W.Frag} {S H : Hp} {a b : Addr} {x y : DX} {ds : List (NestedKey × D)} {k : NestedKey} {v : V} {d dk : D}
theorem xd_of : ∀ {xs : XL} {ds : List (NestedKey × D)}, xs.map (·.1) = ds.map (·.1) → AtL K S (xs.map fun p => V.ref p.2.1) (ds.map fun p => keyB p.1) → AtL K S (xs.map fun p => p.2.2) (ds.map fun p => p.2) → XD K S xs ds
  | [], [], _, _, _ => .nil
  | [], _ :: _, e, _, _ => by simp at e
  | _ :: _, [], e, _, _ => by simp at e
  | p :: xs, q :: ds, e, .cons h1 t1, .cons h2 t2 => by
    rw [List.map_cons, List.map_cons] at e
    injection e with e1 e2
    exact .cons ⟨e1, h1, h2⟩ (xd_of e2 t1 t2)
theorem of_xd : ∀ {xs : XL} {ds : List (NestedKey × D)}, XD K S xs ds → xs.map (·.1) = ds.map (·.1) ∧ AtL K S (xs.map fun p => V.ref p.2.1) (ds.map fun p => keyB p.1) ∧ AtL K S (xs.map fun p => p.2.2) (ds.map fun p => p.2)
  | _, _, .nil => ⟨rfl, .nil, .nil⟩
  | _, _, .cons h t => by
    obtain ⟨a, b, c⟩ := of_xd t
    refine ⟨?_, .cons h.2.1 b, .cons h.2.2 c⟩
    rw [List.map_cons, List.map_cons, a, h.1]
theorem DTok.xd (t : DTok a x ds) (r : AtL K S x.vs (dvs ds)) : XD K S x.xs ds := by
  obtain ⟨r1, r2⟩ := dct_split t r
  exact xd_of t.keys r1 r2
theorem XD.val {xs : XL} (r : XD K S xs ds) (k : NestedKey) : (valX xs k).isSome = (valD ds k).isSome := by
  induction r with
  | nil => rfl
  | @cons p q ps qs h t ih =>
    unfold valX valD at *
    rw [List.find?_cons, List.find?_cons]
    by_cases e : p.1 = k
    · rw [decide_eq_true e, decide_eq_true (h.1.symm.trans e)]; rfl
    · rw [decide_eq_false e, decide_eq_false (fun z => e (h.1.trans z))]; exact ih
theorem XD.store {xs : XL} (r : XD K S xs ds) (hb : At K S (.ref b) (keyB k)) (hv : At K S v d) : XD K S (storeX xs k b v) (putD ds k d) := by
  unfold storeX putD
  rw [r.val k]
  split
  · rename_i q
    clear q
    induction r with
    | nil => exact .nil
    | @cons p q ps qs h t ih =>
      rw [List.map_cons, List.map_cons]
      refine .cons ?_ ih
      obtain ⟨h1, h2, h3⟩ := h
      by_cases e : p.1 = k
      · rw [if_pos e, if_pos (h1.symm.trans e)]; exact ⟨h1, h2, hv⟩
      · rw [if_neg e, if_neg (fun z => e (h1.trans z))]; exact ⟨h1, h2, h3⟩
  · exact Paired.snoc r ⟨rfl, hb, hv⟩
theorem XD.drop {xs : XL} (r : XD K S xs ds) (k : NestedKey) : XD K S (dropX xs k) (dropD ds k) := by
  unfold dropX dropD
  induction r with
  | nil => exact .nil
  | @cons p q ps qs h t ih =>
    obtain ⟨h1, h2, h3⟩ := h
    rw [List.filter_cons, List.filter_cons]
    by_cases e : p.1 = k
    · have a : ¬ decide (p.1 ≠ k) = true := by simp [e]
      have b : ¬ decide (q.1 ≠ k) = true := by simp [h1.symm.trans e]
      rw [if_neg a, if_neg b]; exact ih
    · have e' : ¬ q.1 = k := fun z => e (h1.trans z)
      have a : decide (p.1 ≠ k) = true := by simp [e]
      have b : decide (q.1 ≠ k) = true := by simp [e']
      rw [if_pos a, if_pos b]; exact .cons ⟨h1, h2, h3⟩ ih
/-- a new object with a new table is a dict of these data -/
theorem NewX.tok {xs : XL} (n : NewX a xs y) (r : XD K S xs ds) (hk : ∀ p ∈ xs, keyT (keyB p.1) = some p.1) : DTok a y ds ∧ AtL K S y.vs (dvs ds) := by
  obtain ⟨rfl, h1, h2, h3, h4⟩ := n
  obtain ⟨e, r1, r2⟩ := of_xd r
  exact ⟨⟨h1, h2, e, h3, hk, h4⟩, r1.append r2⟩
theorem store_kk {xs : XL} (h : ∀ p ∈ xs, keyT (keyB p.1) = some p.1) (hk : keyT dk = some k) : ∀ p ∈ storeX xs k b v, keyT (keyB p.1) = some p.1 := fun p hp => by
  rcases storeX_mem hp with ⟨e, _⟩ | ⟨q, hq, e, _⟩
  · rw [e]; exact keyT_back hk
  · rw [← e]; exact h q hq
theorem drop_kk {xs : XL} (h : ∀ p ∈ xs, keyT (keyB p.1) = some p.1) : ∀ p ∈ dropX xs k, keyT (keyB p.1) = some p.1 := fun p hp => h p (List.mem_filter.mp hp).1
theorem putD_len (ds : List (NestedKey × D)) (k : NestedKey) (d : D) : (putD ds k d).length ≤ ds.length + 1 := by
  unfold putD
  split
  · rw [List.length_map]; omega
  · rw [List.length_append]; simp
theorem dropD_len (ds : List (NestedKey × D)) (k : NestedKey) : (dropD ds k).length ≤ ds.length := List.length_filter_le _ _
theorem at_key {K : PySem.W.Frag} {S : Hp} {v : V} {d : D} {k : NestedKey} (h : At K S v d) (e : keyT d = some k) : ∃ b, v = .ref b ∧ At K S (.ref b) (keyB k) := by
  have e2 := keyT_B e
  obtain ⟨ds, rfl, _, _⟩ := keyT_some e
  rw [e2]
  cases h with
  | tup h z r => exact ⟨_, rfl, .tup h z r⟩
theorem key_at {K : PySem.W.Frag} {S H : Hp} {b : Addr} {d : D} {k : NestedKey} (h : At K S (.ref b) d) (e : keyT d = some k) (sub : Same S H) : KeyAt K H b k := ⟨S, d, sub, h, e⟩
end

section
variable {X : Cx} {W : WX} {L : Lc} {os os1 os2 os3 : Os} {e e1 e2 e3 : Expr} {f f1 f2 f3 : Rho → Out (D × Rho)} {pos p : Pos} {td ty tx : TE} {t1 t2 : TE} {o i : Expr}
theorem pe_or (h1 : PE X e t1) (h2 : PE X e t2) : PE X e (fun σ H Q => t1 σ H Q ∨ t2 σ H Q) := ⟨fun pins s σ H Q I q => q.elim (h1.run pins s σ H Q I) (h2.run pins s σ H Q I)⟩
theorem turnX {S H : Hp} {σ : Sg} {ρ : Rho} {i : Nat} {a : Addr} {y : DX} {ds : List (NestedKey × D)} (rel : Rel X.K S H os σ ρ) (ho : os.getD i false = true) (ev : σ[i]? = some (some (.ref a))) (na : S a = none) (z : ds.length ≤ sizeLine) (t : DTok a y ds) (r : AtL X.K S y.vs (dvs ds)) :
    Rel X.K S (upd H a (DT a y)) os σ (ρ.set i (some (.dct ds))) ∧ Stp os σ S H os σ S (upd H a (DT a y)) :=
  ⟨rel.turn ho ev ⟨a, rfl, na, _, upd_same, .dct t z r⟩, Stp.turn rel ho ev⟩

/-! ### d[k] -/
def ixA : D → D → Option D
  | .dct ds, k => (keyT k).bind (valD ds)
  | d, k => ixD d k
theorem ixA_ne {d k : D} (h : ∀ ds, d ≠ .dct ds) : ixA d k = ixD d k := by
  cases d <;> first | rfl | exact (h _ rfl).elim
def tDIxN (K : PySem.W.Frag) (td ty : TE) : TE := fun σ H Q => td σ H fun x H1 => ty σ H1 fun y H2 => ∃ a b dx k v, x = .ref a ∧ y = .ref b ∧ DGood K H2 a dx ∧ KeyAt K H2 b k ∧ valX dx.xs k = some v ∧ Q v H2
theorem pe_dixN (hu : X.A.units + 64 < cLine) (ho : PE X o td) (hi : PE X i ty) (hs : PlainIx i) : PE X (.Subscript o i pos) (tDIxN X.K td ty) := by
  refine ⟨fun pins s σ H Q I h => ?_⟩
  refine subD_of PySem.F.slot_dict_getitem.lookup hs (thn (ho.run pins s σ H _ I h) fun u s1 ⟨x, H1, I1, rx, q1⟩ => thn (hi.run pins s1 σ H1 _ I1 q1) fun iv s2 ⟨y, H2, I2, ry, a, b, dx, k, v, ex, ey, g, hk, l, q2⟩ => ?_)
  subst ex ey
  obtain rfl : u = Value.ref a := rx
  obtain rfl : iv = Value.ref b := ry
  exact ⟨g.typeIs I2, dn_getItem hu I2 g hk l fun w' s3 I3 rw' => ⟨v, H2, I3, rw', q2⟩⟩
theorem ve_ixA (hu : X.A.units + 64 < cLine) (ha : VE X W os e1 f1 os1 false) (hb : VE X W os1 e2 f2 os2 false) (hs : PlainIx e2 := by exact fun _ _ => rfl) : VE X W os (.Subscript e1 e2 pos) (eOp2 ixA f1 f2) os2 false := by
  obtain ⟨t0, p0, k0⟩ : VE X W os (.Subscript e1 e2 pos) (eOp2 ixD f1 f2) os2 false := ve_ix ha hb hs
  obtain ⟨ta, pa, ka⟩ := ha
  obtain ⟨tb, pb, kb⟩ := hb
  refine ⟨_, pe_or p0 (pe_dixN hu pa pb hs), fun S σ H ρ Q rel P => ?_⟩
  by_cases hd : ∃ ds ρ1, f1 ρ = .ok (.dct ds, ρ1)
  · obtain ⟨ds, ρ1, hf⟩ := hd
    refine .inr (ka S σ H ρ _ rel ?_)
    unfold eOp2 at P
    rw [hf] at P ⊢
    intro v S1 H1 st1 rel1 q1
    have P1 : Post X W S1 H1 os1 σ os2 (RV X.K false) Q ((f2 ρ1).bind fun q => (Out.of (ixA (.dct ds) q.1)).bind fun c => .ok (c, q.2)) := Post.step RV.ok P st1
    refine kb S1 σ H1 ρ1 _ rel1 (Post.seq P1 (fun z => z) (fun c fs p => p) fun d2 ρ2 v2 S2 H2 st2 rel2 q2 P2 => ?_)
    obtain ⟨c, hc, kk⟩ := post_of (P2.step RV.ok st2) rel2
    have hc : (keyT d2).bind (valD ds) = some c := hc
    obtain ⟨k, hk, hv⟩ := Option.bind_eq_some_iff.mp hc
    have q2 : At X.K S2 v2 d2 := q2
    obtain ⟨b, rfl, hb⟩ := at_key q2 hk
    cases (At.mono st2.ext.s (show At X.K S1 v (.dct ds) from q1)) with
    | @dct a x _ h t z r =>
      rcases val_at t r k with ⟨w, d, e1, e2, hat⟩ | ⟨_, e2⟩
      · rw [hv] at e2
        cases e2
        exact ⟨a, b, x, k, w, rfl, rfl, good_of (rel2.sub _ _ h) t z r rel2.sub, key_at q2 hk rel2.sub, e1, kk w S2 H2 (Ext.refl rel2.sub) hat⟩
      · rw [hv] at e2; cases e2
  · refine .inl (k0 S σ H ρ Q rel ?_)
    have e : eOp2 ixA f1 f2 ρ = eOp2 ixD f1 f2 ρ := by
      unfold eOp2
      cases hf : f1 ρ with
      | ok z =>
        obtain ⟨d, ρ1⟩ := z
        show ((f2 ρ1).bind fun q => (Out.of (ixA d q.1)).bind fun c => .ok (c, q.2)) = (f2 ρ1).bind fun q => (Out.of (ixD d q.1)).bind fun c => .ok (c, q.2)
        congr 1
        funext q
        rw [ixA_ne fun ds z => hd ⟨ds, ρ1, by rw [hf, z]⟩]
      | exc c fs => rfl
      | stuck => rfl
    rw [← e]
    exact P
/-- x[e], x an owning name -/
def eIxA (i : Nat) (f : Rho → Out (D × Rho)) : Rho → Out (D × Rho) := fun ρ => match ρ.getD i none with
  | some (.dct _) => (f ρ).bind fun p => match p.2.getD i none with
    | some (.dct ds) => (Out.of ((keyT p.1).bind (valD ds))).bind fun c => .ok (c, p.2)
    | _ => .stuck
  | some _ => eIxO i f ρ
  | none => .stuck
theorem ve_ixAO (hu : X.A.units + 64 < cLine) (i : Nat) {x : Str} (hb : VE X W os e2 f2 os1 false) (ho : os.getD i false = true := by rfl) (ho1 : os1.getD i false = true := by rfl) (hN : X.N[i]? = some x := by rfl) (hv : Vis X.env.scope x := by first | exact Or.inl rfl | exact Or.inr (Or.inl rfl) | exact Or.inr (Or.inr rfl))
    (hs : PlainIx e2 := by exact fun _ _ => rfl) (hd : (x == ("__debug__" : Str)) = false := by decide) (hcd : (x == ("__classdict__" : Str)) = false := by decide) : VE X W os (.Subscript (.Name x p) e2 pos) (eIxA i f2) os1 false := by
  obtain ⟨t0, p0, k0⟩ : VE X W os (.Subscript (.Name x p) e2 pos) (fun ρ => match ρ.getD i none with | some _ => eIxO i f2 ρ | none => .stuck) os1 false := ve_ixO i hb ho ho1 hN hv hs hd hcd
  obtain ⟨tb, pb, kb⟩ := hb
  refine ⟨_, pe_or p0 (pe_dixN hu (pe_var hN hv hd hcd) pb hs), fun S σ H ρ Q rel P => ?_⟩
  unfold eIxA at P
  cases h0 : ρ.getD i none with
  | none => rw [h0] at P; exact P.elim
  | some d0 =>
    rw [h0] at P
    by_cases hdd : ∃ ds, d0 = .dct ds
    · obtain ⟨ds0, rfl⟩ := hdd
      obtain ⟨v, ev, _⟩ := rel.own (getD_some h0) ho
      refine .inr ⟨v, ev, kb S σ H ρ _ rel (Post.seq P (fun z => z) (fun c fs p => p) fun d2 ρ2 v2 S2 H2 st2 rel2 q2 P2 => ?_)⟩
      have P2 := P2.step RV.ok st2
      dsimp only at P2
      cases h1 : ρ2.getD i none with
      | none => rw [h1] at P2; exact P2.elim
      | some d1 =>
        rw [h1] at P2
        obtain ⟨v', ev', hown⟩ := rel2.own (getD_some h1) ho1
        rw [ev] at ev'
        cases ev'
        obtain ⟨a, ea, na, oo, eh, bd⟩ := hown
        subst ea
        cases bd with
        | @dct x ds t z r =>
          have P2 : Post X W S2 H2 os1 σ os1 (RV X.K false) Q ((Out.of ((keyT d2).bind (valD ds))).bind fun c => .ok (c, ρ2)) := P2
          obtain ⟨c, hc, kk⟩ := post_of P2 rel2
          obtain ⟨k, hk, hv⟩ := Option.bind_eq_some_iff.mp hc
          have q2 : At X.K S2 v2 d2 := q2
          obtain ⟨b, rfl, hb⟩ := at_key q2 hk
          rcases val_at t r k with ⟨w, d, e1, e2, hat⟩ | ⟨_, e2⟩
          · rw [hv] at e2
            cases e2
            exact ⟨a, b, x, k, w, rfl, rfl, good_of eh t z r rel2.sub, key_at q2 hk rel2.sub, e1, kk w S2 H2 (Ext.refl rel2.sub) hat⟩
          · rw [hv] at e2; cases e2
        | _ => exact P2.elim
    · refine .inl (k0 S σ H ρ Q rel ?_)
      dsimp only
      rw [h0]
      cases d0 <;> first | exact P | exact (hdd ⟨_, rfl⟩).elim

/-! ### k in d, len(d) -/
def inDct : D → D → Option D
  | k, .dct ds => (keyT k).map fun k => .bl (valD ds k).isSome
  | _, _ => none
def notInDct : D → D → Option D
  | k, .dct ds => (keyT k).map fun k => .bl (!(valD ds k).isSome)
  | _, _ => none
def rInN (K : PySem.W.Frag) (f : Bool → Bool) : R2 := fun x y H Q => ∃ a b dx k, x = .ref b ∧ y = .ref a ∧ DGood K H a dx ∧ KeyAt K H b k ∧ Q (.bl (f (valX dx.xs k).isSome)) H
theorem op_inN (hu : X.A.units + 64 < cLine) : OpR X (compareOp .In) (rInN X.K id) := by
  intro pins s σ H x y v u Q I rx ry h
  obtain ⟨a, b, dx, k, rfl, rfl, g, hk, q⟩ := h
  obtain rfl : v = Value.ref b := rx
  obtain rfl : u = Value.ref a := ry
  exact dn_in hu I g hk fun s3 I3 => ⟨.bl _, H, I3, rfl, q⟩
theorem op_notInN (hu : X.A.units + 64 < cLine) : OpR X (compareOp .NotIn) (rInN X.K not) := by
  intro pins s σ H x y v u Q I rx ry h
  obtain ⟨a, b, dx, k, rfl, rfl, g, hk, q⟩ := h
  obtain rfl : v = Value.ref b := rx
  obtain rfl : u = Value.ref a := ry
  exact dn_notIn hu I g hk fun s3 I3 => ⟨.bl _, H, I3, rfl, q⟩
theorem o_inN (hu : X.A.units + 64 < cLine) : Op2 X (compareOp .In) inDct := ⟨_, op_inN hu, fun S H x y a b c Q sub ha hb e k => by
  cases hb with
  | @dct q dx ds h t z r =>
    obtain ⟨kk, hk, rfl⟩ := Option.map_eq_some_iff.mp (show (keyT a).map _ = some c from e)
    obtain ⟨b', rfl, hb'⟩ := at_key ha hk
    refine ⟨q, b', dx, kk, rfl, rfl, good_of (sub _ _ h) t z r sub, key_at ha hk sub, ?_⟩
    rw [(t.xd r).val kk]
    exact k _ S H (Ext.refl sub) (.bl _)
  | _ => cases e⟩
theorem o_notInN (hu : X.A.units + 64 < cLine) : Op2 X (compareOp .NotIn) notInDct := ⟨_, op_notInN hu, fun S H x y a b c Q sub ha hb e k => by
  cases hb with
  | @dct q dx ds h t z r =>
    obtain ⟨kk, hk, rfl⟩ := Option.map_eq_some_iff.mp (show (keyT a).map _ = some c from e)
    obtain ⟨b', rfl, hb'⟩ := at_key ha hk
    refine ⟨q, b', dx, kk, rfl, rfl, good_of (sub _ _ h) t z r sub, key_at ha hk sub, ?_⟩
    rw [(t.xd r).val kk]
    exact k _ S H (Ext.refl sub) (.bl _)
  | _ => cases e⟩
def inA : D → D → Option D := fun a b => match inDct a b with | some c => some c | none => inD a b
def notInA : D → D → Option D := fun a b => match notInDct a b with | some c => some c | none => notInD a b
theorem o_inA (hu : X.A.units + 65 < cLine) : Op2 X (compareOp .In) inA := (o_inN (by omega)).or (o_in hu)
theorem o_notInA (hu : X.A.units + 65 < cLine) : Op2 X (compareOp .NotIn) notInA := (o_notInN (by omega)).or (o_notin hu)
def lenDct : List D → Option D
  | [.dct ds] => some (.int ds.length)
  | _ => none
def rLenN (K : PySem.W.Frag) : List V → Hp → VK → Prop := fun xs H Q => ∃ a dx, xs = [.ref a] ∧ DGood K H a dx ∧ Q (.int (dx.xs.length : Nat)) H
theorem call_lenN : CallR X (.builtin "len") (rLenN X.K) := by
  intro pins s σ H xs us Q I r h
  obtain ⟨a, dx, rfl, g, q⟩ := h
  obtain ⟨u, rfl, rx⟩ := vals1 r
  obtain rfl : u = Value.ref a := rx
  exact dn_len I g fun t s' I' => ⟨.int (dx.xs.length : Nat), H, I', ⟨t, rfl⟩, q⟩
theorem c_lenN : CallD X (.builtin "len") lenDct := ⟨_, call_lenN, fun S H vs ds c Q sub ha e k => by
  unfold lenDct at e
  split at e
  · cases e
    match vs, ha with
    | [_], .cons (.dct (a := a) (x := dx) h t z r) .nil =>
      refine ⟨a, dx, rfl, good_of (sub _ _ h) t z r sub, ?_⟩
      rw [t.len]
      exact k _ S H (Ext.refl sub) (.int _)
  · cases e⟩
def lenA : List D → Option D := fun ds => match lenD ds with | some c => some c | none => lenDct ds
theorem c_lenA : CallD X (.builtin "len") lenA := c_len.or c_lenN

/-! ### d.get(k, z) -/
def tDGetN (K : PySem.W.Frag) (td ty tx : TE) : TE := fun σ H Q => td σ H fun x H1 => ∃ a dx0, x = .ref a ∧ DGood K H1 a dx0 ∧ ty σ H1 fun y H2 => tx σ H2 fun z H3 => ∃ b dx k, y = .ref b ∧ DGood K H3 a dx ∧ KeyAt K H3 b k ∧ Q ((valX dx.xs k).getD z) H3
theorem pe_dgetN {apos cpos : Pos} (hu : X.A.units + 64 < cLine) (ho : PE X o td) (he : PE X e ty) (hf : PE X e2 tx) (m : M2 X o "get" apos e e2 cpos) : PE X (.Call (.Attribute o "get" apos) [e, e2] [] cpos) (tDGetN X.K td ty tx) := by
  refine ⟨fun pins s σ H Q I h => ?_⟩
  refine wpAny_Call_method m.base m.few m.line PySem.F.plainAttrs_dict PySem.F.slot_dict_get PySem.F.type_dict_get (thn (ho.run pins s σ H _ I h) fun u s1 ⟨x, H1, I1, rx, a, dx0, ex, g0, q1⟩ => ?_)
  subst ex
  obtain rfl : u = Value.ref a := rx
  refine ⟨g0.typeIs I1, g0.noDict I1, ?_⟩
  rw [m.trees]
  refine Calls.callWith_builtin rfl (Calls.evalArgs_plain (Calls.spliced_cons (thn (he.run pins s1 σ H1 _ I1 q1) fun iv s2 ⟨y, H2, I2, ry, q2⟩ =>
    Calls.spliced_cons (thn (hf.run pins s2 σ H2 _ I2 q2) fun fv s3 ⟨z, H3, I3, rz, b, dx, k, ey, g, hk, q3⟩ => Calls.spliced_nil ?_))))
  subst ey
  obtain rfl : iv = Value.ref b := ry
  exact dn_get2 hu I3 g hk rz fun w' s4 I4 rw' => ⟨_, H3, I4, rw', q3⟩
/-- d.get(k, z), d a dict that stands -/
def eDGet (f g h : Rho → Out (D × Rho)) : Rho → Out (D × Rho) := fun ρ => (f ρ).bind fun p => match p.1 with
  | .dct ds => (g p.2).bind fun q => (h q.2).bind fun r => (Out.of ((keyT q.1).map fun k => (valD ds k).getD r.1)).bind fun c => .ok (c, r.2)
  | _ => .stuck
theorem val_getD {K : PySem.W.Frag} {S : Hp} {a : Addr} {x : DX} {ds : List (NestedKey × D)} {k : NestedKey} {z : V} {d : D} (t : DTok a x ds) (r : AtL K S x.vs (dvs ds)) (hz : At K S z d) : At K S ((valX x.xs k).getD z) ((valD ds k).getD d) := by
  rcases val_at t r k with ⟨w, d', e1, e2, hat⟩ | ⟨e1, e2⟩
  · rw [e1, e2]; exact hat
  · rw [e1, e2]; exact hz
theorem ve_dget {apos cpos : Pos} (hu : X.A.units + 64 < cLine) (h1 : VE X W os e1 f1 os1 false) (h2 : VE X W os1 e2 f2 os2 false) (h3 : VE X W os2 e3 f3 os3 false)
    (m1 : attributeBase e1 "get" X.env (eval e1 X.env) = eval e1 X.env := by rfl) (m2 : ((backTo cpos (starEach [e2, e3] X.env)).all (fun x => !x.1) && (backToKw cpos (keywordEach [] X.env)).all (fun x => x.1.isSome)
    && decide (([e2, e3] : List Expr).length + ([] : List Keyword).length + (if ([] : List Keyword).isEmpty then 0 else 1) < 30)) = true := by rfl) (m3 : (apos.endLine == cpos.line) = true := by rfl) (m4 : backTo cpos (starEach [e2, e3] X.env) = [(false, eval e2 X.env), (false, eval e3 X.env)] := by rfl) :
    VE X W os (.Call (.Attribute e1 "get" apos) [e2, e3] [] cpos) (eDGet f1 f2 f3) os3 false := by
  obtain ⟨ta, pa, ka⟩ := h1
  obtain ⟨tb, pb, kb⟩ := h2
  obtain ⟨tc, pc, kc⟩ := h3
  refine ⟨_, pe_dgetN hu pa pb pc ⟨m1, m2, m3, m4⟩, fun S σ H ρ Q rel P => ?_⟩
  refine ka S σ H ρ _ rel (Post.seq P (fun z => z) (fun c fs p => p) fun d ρ1 v S1 H1 st1 rel1 q1 P1 => ?_)
  have P1 := P1.step RV.ok st1
  cases (show At X.K S1 v d from q1) with
  | @dct a x ds h t z r =>
    refine ⟨a, x, rfl, good_of (rel1.sub _ _ h) t z r rel1.sub, ?_⟩
    refine kb S1 σ H1 ρ1 _ rel1 (Post.seq P1 (fun z => z) (fun c fs p => p) fun d2 ρ2 v2 S2 H2 st2 rel2 q2 P2 => ?_)
    have P2 := P2.step RV.ok st2
    refine kc S2 σ H2 ρ2 _ rel2 (Post.seq P2 (fun z => z) (fun c fs p => p) fun d3 ρ3 v3 S3 H3 st3 rel3 q3 P3 => ?_)
    obtain ⟨c, hc, kk⟩ := post_of (P3.step RV.ok st3) rel3
    obtain ⟨k, hk, rfl⟩ := Option.map_eq_some_iff.mp hc
    have q2 : At X.K S3 v2 d2 := At.mono st3.ext.s q2
    obtain ⟨b, rfl, hb⟩ := at_key q2 hk
    have s13 : Same S1 S3 := st2.ext.s.trans st3.ext.s
    have r' := r.mono s13
    exact ⟨b, x, k, rfl, good_of (rel3.sub _ _ (s13 _ _ h)) t z r' rel3.sub, key_at q2 hk rel3.sub, kk _ S3 H3 (Ext.refl rel3.sub) (val_getD t r' q3)⟩
  | _ => exact P1.elim
/-- d.get(k, z), d an owning name -/
def eDGetO (i : Nat) (g h : Rho → Out (D × Rho)) : Rho → Out (D × Rho) := fun ρ => match ρ.getD i none with
  | some (.dct _) => (g ρ).bind fun q => (h q.2).bind fun r => (match r.2.getD i none with
    | some (.dct ds) => (Out.of ((keyT q.1).map fun k => (valD ds k).getD r.1)).bind fun c => .ok (c, r.2)
    | _ => .stuck)
  | _ => .stuck
theorem ve_dgetO {apos cpos : Pos} (hu : X.A.units + 64 < cLine) (i : Nat) {x : Str} (h2 : VE X W os e2 f2 os2 false) (h3 : VE X W os2 e3 f3 os3 false)
    (ho : os.getD i false = true := by rfl) (ho3 : os3.getD i false = true := by rfl) (hN : X.N[i]? = some x := by rfl) (hv : Vis X.env.scope x := by first | exact Or.inl rfl | exact Or.inr (Or.inl rfl) | exact Or.inr (Or.inr rfl)) (hd : (x == ("__debug__" : Str)) = false := by decide) (hcd : (x == ("__classdict__" : Str)) = false := by decide)
    (m1 : attributeBase (.Name x p) "get" X.env (eval (.Name x p) X.env) = eval (.Name x p) X.env := by rfl) (m2 : ((backTo cpos (starEach [e2, e3] X.env)).all (fun x => !x.1) && (backToKw cpos (keywordEach [] X.env)).all (fun x => x.1.isSome)
    && decide (([e2, e3] : List Expr).length + ([] : List Keyword).length + (if ([] : List Keyword).isEmpty then 0 else 1) < 30)) = true := by rfl) (m3 : (apos.endLine == cpos.line) = true := by rfl) (m4 : backTo cpos (starEach [e2, e3] X.env) = [(false, eval e2 X.env), (false, eval e3 X.env)] := by rfl) :
    VE X W os (.Call (.Attribute (.Name x p) "get" apos) [e2, e3] [] cpos) (eDGetO i f2 f3) os3 false := by
  obtain ⟨tb, pb, kb⟩ := h2
  obtain ⟨tc, pc, kc⟩ := h3
  refine ⟨_, pe_dgetN hu (pe_var hN hv hd hcd) pb pc ⟨m1, m2, m3, m4⟩, fun S σ H ρ Q rel P => ?_⟩
  unfold eDGetO at P
  cases h0 : ρ.getD i none with
  | none => rw [h0] at P; exact P.elim
  | some d0 =>
    rw [h0] at P
    obtain ⟨v, ev, hown⟩ := rel.own (getD_some h0) ho
    obtain ⟨a, ea, na, oo, eh, bd⟩ := hown
    subst ea
    refine ⟨.ref a, ev, ?_⟩
    cases bd with
    | @dct x0 ds0 t0 z0 r0 =>
      refine ⟨a, x0, rfl, good_of eh t0 z0 r0 rel.sub, ?_⟩
      refine kb S σ H ρ _ rel (Post.seq P (fun z => z) (fun c fs p => p) fun d2 ρ2 v2 S2 H2 st2 rel2 q2 P2 => ?_)
      have P2 := P2.step RV.ok st2
      refine kc S2 σ H2 ρ2 _ rel2 (Post.seq P2 (fun z => z) (fun c fs p => p) fun d3 ρ3 v3 S3 H3 st3 rel3 q3 P3 => ?_)
      have P3 := P3.step RV.ok st3
      dsimp only at P3
      cases h3 : ρ3.getD i none with
      | none => rw [h3] at P3; exact P3.elim
      | some d1 =>
        rw [h3] at P3
        obtain ⟨v', ev', hown⟩ := rel3.own (getD_some h3) ho3
        rw [ev] at ev'
        cases ev'
        obtain ⟨a', ea, na', oo, eh, bd⟩ := hown
        cases ea
        cases bd with
        | @dct x ds t z r =>
          have P3 : Post X W S3 H3 os3 σ os3 (RV X.K false) Q ((Out.of ((keyT d2).map fun k => (valD ds k).getD d3)).bind fun c => .ok (c, ρ3)) := P3
          obtain ⟨c, hc, kk⟩ := post_of P3 rel3
          obtain ⟨k, hk, rfl⟩ := Option.map_eq_some_iff.mp hc
          have q2 : At X.K S3 v2 d2 := At.mono st3.ext.s q2
          obtain ⟨b, rfl, hb⟩ := at_key q2 hk
          exact ⟨b, x, k, rfl, good_of eh t z r rel3.sub, key_at q2 hk rel3.sub, kk _ S3 H3 (Ext.refl rel3.sub) (val_getD t r q3)⟩
        | _ => exact P3.elim
    | _ => exact P.elim

/-! ### d.pop(k), d[k] = v, {} -/
def tDPopN (K : PySem.W.Frag) (td ty : TE) : TE := fun σ H Q => td σ H fun x H1 => ∃ a dx0, x = .ref a ∧ DGood K H1 a dx0 ∧ ty σ H1 fun y H2 => ∃ b dx k v, y = .ref b ∧ DGood K H2 a dx ∧ KeyAt K H2 b k ∧ valX dx.xs k = some v ∧ ∀ n, NewX a (dropX dx.xs k) n → Q v (upd H2 a (DT a n))
theorem pe_dpopN {apos cpos : Pos} (hu : X.A.units + 64 < cLine) (ho : PE X o td) (he : PE X e ty) (m : M1 X o "pop" apos e cpos) : PE X (.Call (.Attribute o "pop" apos) [e] [] cpos) (tDPopN X.K td ty) := by
  refine ⟨fun pins s σ H Q I h => ?_⟩
  refine wpAny_Call_method m.base m.few m.line PySem.F.plainAttrs_dict PySem.F.slot_dict_pop PySem.F.type_dict_pop (thn (ho.run pins s σ H _ I h) fun u s1 ⟨x, H1, I1, rx, a, dx0, ex, g0, q1⟩ => ?_)
  subst ex
  obtain rfl : u = Value.ref a := rx
  refine ⟨g0.typeIs I1, g0.noDict I1, ?_⟩
  rw [m.trees]
  refine Calls.callWith_builtin rfl (Calls.evalArgs_plain (Calls.spliced_cons (thn (he.run pins s1 σ H1 _ I1 q1) fun iv s2 ⟨y, H2, I2, ry, b, dx, k, v, ey, g, hk, l, q2⟩ => Calls.spliced_nil ?_)))
  subst ey
  obtain rfl : iv = Value.ref b := ry
  exact dn_pop hu I2 g hk l fun n w' s3 hn rw' I3 => ⟨v, _, I3, rw', q2 n hn⟩
def eDPop (i : Nat) (g : Rho → Out (D × Rho)) : Rho → Out (D × Rho) := fun ρ => match ρ.getD i none with
  | some (.dct _) => (g ρ).bind fun q => (match q.2.getD i none with
    | some (.dct ds) => (Out.of ((keyT q.1).bind fun k => (valD ds k).map fun c => (c, dropD ds k))).bind fun c => .ok (c.1, q.2.set i (some (.dct c.2)))
    | _ => .stuck)
  | _ => .stuck
theorem ve_dpop {apos cpos : Pos} (hu : X.A.units + 64 < cLine) (i : Nat) {x : Str} (h2 : VE X W os e2 f2 os2 false)
    (ho : os.getD i false = true := by rfl) (ho2 : os2.getD i false = true := by rfl) (hN : X.N[i]? = some x := by rfl) (hv : Vis X.env.scope x := by first | exact Or.inl rfl | exact Or.inr (Or.inl rfl) | exact Or.inr (Or.inr rfl)) (hd : (x == ("__debug__" : Str)) = false := by decide) (hcd : (x == ("__classdict__" : Str)) = false := by decide)
    (m1 : attributeBase (.Name x p) "pop" X.env (eval (.Name x p) X.env) = eval (.Name x p) X.env := by rfl) (m2 : ((backTo cpos (starEach [e2] X.env)).all (fun x => !x.1) && (backToKw cpos (keywordEach [] X.env)).all (fun x => x.1.isSome)
    && decide (([e2] : List Expr).length + ([] : List Keyword).length + (if ([] : List Keyword).isEmpty then 0 else 1) < 30)) = true := by rfl) (m3 : (apos.endLine == cpos.line) = true := by rfl) (m4 : backTo cpos (starEach [e2] X.env) = [(false, eval e2 X.env)] := by rfl) :
    VE X W os (.Call (.Attribute (.Name x p) "pop" apos) [e2] [] cpos) (eDPop i f2) os2 false := by
  obtain ⟨tb, pb, kb⟩ := h2
  refine ⟨_, pe_dpopN hu (pe_var hN hv hd hcd) pb ⟨m1, m2, m3, m4⟩, fun S σ H ρ Q rel P => ?_⟩
  unfold eDPop at P
  cases h0 : ρ.getD i none with
  | none => rw [h0] at P; exact P.elim
  | some d0 =>
    rw [h0] at P
    obtain ⟨v, ev, hown⟩ := rel.own (getD_some h0) ho
    obtain ⟨a, ea, na, oo, eh, bd⟩ := hown
    subst ea
    refine ⟨.ref a, ev, ?_⟩
    cases bd with
    | @dct x0 ds0 t0 z0 r0 =>
      refine ⟨a, x0, rfl, good_of eh t0 z0 r0 rel.sub, ?_⟩
      refine kb S σ H ρ _ rel (Post.seq P (fun z => z) (fun c fs p => p) fun d2 ρ2 v2 S2 H2 st2 rel2 q2 P2 => ?_)
      have P2 := P2.step RV.ok st2
      dsimp only at P2
      cases h2 : ρ2.getD i none with
      | none => rw [h2] at P2; exact P2.elim
      | some d1 =>
        rw [h2] at P2
        obtain ⟨v', ev', hown⟩ := rel2.own (getD_some h2) ho2
        rw [ev] at ev'
        cases ev'
        obtain ⟨a', ea, na', oo, eh, bd⟩ := hown
        cases ea
        cases bd with
        | @dct x ds t z r =>
          have P2 : Post X W S2 H2 os2 σ os2 (RV X.K false) Q ((Out.of ((keyT d2).bind fun k => (valD ds k).map fun c => (c, dropD ds k))).bind fun c => .ok (c.1, ρ2.set i (some (.dct c.2)))) := P2
          cases hk : keyT d2 with
          | none => rw [hk] at P2; exact P2.elim
          | some k =>
            rw [hk] at P2
            have q2 : At X.K S2 v2 d2 := q2
            obtain ⟨b, rfl, hb⟩ := at_key q2 hk
            rcases val_at t r k with ⟨w, d, e1, e2, hat⟩ | ⟨_, e2⟩
            · have P2 : Post X W S2 H2 os2 σ os2 (RV X.K false) Q ((Out.of ((valD ds k).map fun c => (c, dropD ds k))).bind fun c => .ok (c.1, ρ2.set i (some (.dct c.2)))) := P2
              rw [e2] at P2
              refine ⟨b, x, k, w, rfl, good_of eh t z r rel2.sub, key_at q2 hk rel2.sub, e1, fun n hn => ?_⟩
              obtain ⟨t', r'⟩ := hn.tok ((t.xd r).drop k) (drop_kk t.kk)
              obtain ⟨rel3, st3⟩ := turnX rel2 ho2 ev na' (Nat.le_trans (dropD_len ds k) z) t' r'
              exact P2 w S2 _ st3 rel3 hat
            · have P2 : Post X W S2 H2 os2 σ os2 (RV X.K false) Q ((Out.of ((valD ds k).map fun c => (c, dropD ds k))).bind fun c => .ok (c.1, ρ2.set i (some (.dct c.2)))) := P2
              rw [e2] at P2
              exact P2.elim
        | _ => exact P2.elim
    | _ => exact P.elim
/-- {} -/
def tDNewN : TE := fun _ H Q => ∀ p y, H p = none → NewX p [] y → Q (.ref p) (upd H p (DT p y))
theorem pe_dnewN : PE X (.Dict [] [] pos) tDNewN := ⟨fun pins s σ H Q I h => by
  have ho : (s.heap.push { cls := .type "dict", data := .dict #[] }).get? s.heap.objs.size = some { cls := .type "dict", data := .dict #[] } := Heap.get?_push_size _ rfl
  refine wpAny_Dict_empty ⟨.ref s.heap.objs.size, _, I.laid (a := s.heap.objs.size) (o := DT s.heap.objs.size ⟨{ cls := .type "dict", data := .dict #[] }, []⟩) (t' := s.toks) (fun _ _ q => Heap.get?_push_of_some _ q) (Nat.le_refl _) (dt_ok ho), rfl, h _ _ (I.hok.fresh (Nat.le_refl _)) ?_⟩
  exact ⟨rfl, beq_eq_false_iff_ne.mpr (Ne.symm (Nat.ne_of_lt I.big)), ⟨rfl, rfl, rfl⟩, List.nodup_nil, #[], 0, rfl, .nil⟩⟩
def eDNew : Rho → Out (D × Rho) := fun ρ => .ok (.dct [], ρ)
theorem OwnAt.mkX {K : PySem.W.Frag} {S H : Hp} {a : Addr} {y : DX} {ds : List (NestedKey × D)} (n : S a = none) (h : H a = some (DT a y)) (t : DTok a y ds) (z : ds.length ≤ sizeLine) (r : AtL K S y.vs (dvs ds)) : OwnAt K S H (.ref a) (.dct ds) := ⟨a, rfl, n, _, h, .dct t z r⟩
theorem ve_dnew : VE X W os (.Dict [] [] pos) eDNew os true := ⟨_, pe_dnewN, fun S σ H ρ Q rel P p y np hn => by
  have xx := Ext.newO (O := fun _ => False) (o := DT p y) rel.sub np
  obtain ⟨t, r⟩ := hn.tok (K := X.K) (S := S) (ds := []) .nil fun p hp => by cases hp
  exact P (.ref p) S _ (Stp.of_ext xx) (rel.ext0 xx) ⟨.mkX (rel.sub.free np) upd_same t (Nat.zero_le _) r, fun a e => by cases e; exact np⟩⟩

def sDPutN (K : PySem.W.Frag) (td ty tv : TE) : TS := fun Ds σ H => tv σ H fun v H1 => td σ H1 fun x H2 => ty σ H2 fun y H3 => ∃ a b dx k, x = .ref a ∧ y = .ref b ∧ DGood K H3 a dx ∧ KeyAt K H3 b k ∧ ∀ n, NewX a (storeX dx.xs k b v) n → Ds.nx σ (upd H3 a (DT a n))
theorem ps_dputN {value : Expr} {pos' : Pos} {tv : TE} (hu : X.A.units + 64 < cLine) (ho : PE X o td) (hi : PE X i ty) (hv : PE X value tv) (hs : swapsWith value (some (.Subscript o i pos')) pos.line X.env = pure false) :
    PS X (.Assign [.Subscript o i pos'] value pos) (sDPutN X.K td ty tv) := by
  refine ⟨fun pins s σ H D I h => ?_⟩
  refine wpAny_Assign_Subscript (thn (hv.run pins s σ H _ I h) fun r s1 ⟨v, H1, I1, rv, q1⟩ => thn (ho.run pins s1 σ H1 _ I1 q1) fun u s2 ⟨x, H2, I2, rx, q2⟩ => thn (hi.run pins s2 σ H2 _ I2 q2) fun iv s3 ⟨y, H3, I3, ry, a, b, dx, k, ex, ey, g, hk, q3⟩ => ?_) hs
  subst ex ey
  obtain rfl : u = Value.ref a := rx
  obtain rfl : iv = Value.ref b := ry
  exact dn_setItem hu I3 g hk rv fun n s4 hn I4 => ⟨σ, _, I4, q3 n hn⟩
theorem ps_or {st : Stmt} {t1 t2 : TS} (h1 : PS X st t1) (h2 : PS X st t2) : PS X st (fun D σ H => t1 D σ H ∨ t2 D σ H) := ⟨fun pins s σ H D I q => q.elim (h1.run pins s σ H D I) (h2.run pins s σ H D I)⟩
/-- x[fi] = f, x an owning name: a list or a dict -/
def sSetA (i : Nat) (f fi : Rho → Out (D × Rho)) : Rho → Out Fl := fun ρ => match ρ.getD i none with
  | some (.dct _) => (f ρ).bind fun p => (match p.2.getD i none with
    | some (.dct _) => (fi p.2).bind fun q => (match q.2.getD i none with
      | some (.dct ds) => (Out.of ((keyT q.1).bind fun k => if ds.length < sizeLine then some (putD ds k p.1) else none)).bind fun c => .ok (.nx (q.2.set i (some (.dct c))))
      | _ => .stuck)
    | _ => .stuck)
  | _ => sSetIx i f fi ρ
theorem vs_setA (hu : X.A.units + 64 < cLine) (i : Nat) {x : Str} {px ps : Pos} {ie : Expr} {fi : Rho → Out (D × Rho)} (hv : VE X W os e f os1 false) (hi : VE X W os1 ie fi os2 false) (ho : os.getD i false = true := by rfl) (ho1 : os1.getD i false = true := by rfl) (ho2 : os2.getD i false = true := by rfl) (hN : X.N[i]? = some x := by rfl)
    (hvis : Vis X.env.scope x := by first | exact Or.inl rfl | exact Or.inr (Or.inl rfl) | exact Or.inr (Or.inr rfl)) (hd : (x == ("__debug__" : Str)) = false := by decide) (hcd : (x == ("__classdict__" : Str)) = false := by decide)
    (ha : ∀ v, assign (.Subscript (.Name x px) ie ps) X.env v = (do
      let ov ← holding [v] (eval (.Name x px) X.env)
      let iv ← holding [v, ov] (eval ie X.env)
      standAt ps
      holding [v, ov, iv] (setItem ov iv v)
      release [v, ov, iv] []) := by intro _; rfl) (hs : swapsWithSole [.Subscript (.Name x px) ie ps] e pos.line X.env = pure false := by rfl) (hw : swappedStores [.Subscript (.Name x px) ie ps] e X.env = pure none := by rfl)
    (h1 : (assignEach [.Subscript (.Name x px) ie ps] X.env).map (·.2) = [assign (.Subscript (.Name x px) ie ps) X.env] := by rfl) (hs2 : swapsWith e (some (.Subscript (.Name x px) ie ps)) pos.line X.env = pure false := by rfl) :
    VS X W L os (.Assign [.Subscript (.Name x px) ie ps] e pos) (sSetA i f fi) os2 := by
  obtain ⟨t0, p0, k0⟩ : VS X W L os (.Assign [.Subscript (.Name x px) ie ps] e pos) (sSetIx i f fi) os2 := vs_setIx i hv hi ho1 ho2 hN hvis hd hcd ha hs hw h1
  obtain ⟨t, pt, kt⟩ := hv
  obtain ⟨ti, pi, ki⟩ := hi
  refine ⟨_, ps_or p0 (ps_dputN hu (pe_var hN hvis hd hcd) pi pt hs2), fun S σ H ρ Ds rel P => ?_⟩
  by_cases hdd : ∃ ds, ρ.getD i none = some (.dct ds)
  · obtain ⟨ds0, h0⟩ := hdd
    unfold sSetA at P
    rw [h0] at P
    refine .inr ?_
    refine kt S σ H ρ _ rel (PostS.seqE P fun d ρ1 v S1 H1 s1 r1 q1 P1 => ?_)
    dsimp only at P1
    cases hx : ρ1.getD i none with
    | none => rw [hx] at P1; exact P1.elim
    | some d1 =>
      rw [hx] at P1
      obtain ⟨u, eu, _⟩ := r1.own (getD_some hx) ho1
      refine ⟨u, eu, ?_⟩
      have P1 : PostS X W L S1 H1 os1 σ os2 Ds ((fi ρ1).bind fun q => (match q.2.getD i none with
        | some (.dct ds) => (Out.of ((keyT q.1).bind fun k => if ds.length < sizeLine then some (putD ds k d) else none)).bind fun c => .ok (.nx (q.2.set i (some (.dct c))))
        | _ => .stuck)) := by
        cases d1 <;> first | exact P1 | exact P1.elim
      refine ki S1 σ H1 ρ1 _ r1 (PostS.seqE P1 fun d2 ρ2 v2 S2 H2 s2 r2 q2 P2 => ?_)
      dsimp only at P2
      cases hx2 : ρ2.getD i none with
      | none => rw [hx2] at P2; exact P2.elim
      | some d3 =>
        rw [hx2] at P2
        obtain ⟨u', eu', hown⟩ := r2.own (getD_some hx2) ho2
        rw [eu] at eu'
        cases eu'
        obtain ⟨a, ea, na, oo, eh, bd⟩ := hown
        subst ea
        cases bd with
        | @dct x ds t z r =>
          have P2 : PostS X W L S2 H2 os2 σ os2 Ds ((Out.of ((keyT d2).bind fun k => if ds.length < sizeLine then some (putD ds k d) else none)).bind fun c => .ok (.nx (ρ2.set i (some (.dct c))))) := P2
          cases hk : keyT d2 with
          | none => rw [hk] at P2; exact P2.elim
          | some k =>
            rw [hk] at P2
            have q2 : At X.K S2 v2 d2 := q2
            obtain ⟨b, rfl, hb⟩ := at_key q2 hk
            by_cases hz : ds.length < sizeLine
            · have P2 : PostS X W L S2 H2 os2 σ os2 Ds ((Out.of (if ds.length < sizeLine then some (putD ds k d) else none)).bind fun c => .ok (.nx (ρ2.set i (some (.dct c))))) := P2
              rw [if_pos hz] at P2
              refine ⟨a, b, x, k, rfl, rfl, good_of eh t z r r2.sub, key_at q2 hk r2.sub, fun n hn => ?_⟩
              obtain ⟨t', r'⟩ := hn.tok ((t.xd r).store hb (At.mono s2.ext.s (show At X.K S1 v d from q1))) (store_kk t.kk hk)
              obtain ⟨r3, st3⟩ := turnX r2 ho2 eu na (by have := putD_len ds k d; omega) t' r'
              exact P2 σ S2 _ st3 FixOn.refl r3
            · have P2 : PostS X W L S2 H2 os2 σ os2 Ds ((Out.of (if ds.length < sizeLine then some (putD ds k d) else none)).bind fun c => .ok (.nx (ρ2.set i (some (.dct c))))) := P2
              rw [if_neg hz] at P2
              exact P2.elim
        | _ => exact P2.elim
  · refine .inl (k0 S σ H ρ Ds rel ?_)
    have e : sSetA i f fi ρ = sSetIx i f fi ρ := by
      unfold sSetA
      split
      · rename_i ds h; exact (hdd ⟨ds, h⟩).elim
      · rfl
    rw [← e]
    exact P

/-! ### for x in d -/
/-- the dict's object at a, walked by its keys -/
def Itkn (K : PySem.W.Frag) (a : Addr) (x : DX) : It :=
  ⟨fun i H => DGood K H a x ∧ i < x.xs.length, fun i H v H' => H' = H ∧ ∃ p, x.xs[i]? = some p ∧ v = .ref p.2.1, fun i H => DGood K H a x ∧ x.xs.length ≤ i⟩
theorem EnL.get {es : List DictEntry} {xs : XL} (h : EnL es xs) {i : Nat} {p : NestedKey × Addr × V} (e : xs[i]? = some p) : ∃ en, es[i]? = some en ∧ en.key = .ref p.2.1 ∧ RelV p.2.2 en.val := by
  induction h generalizing i with
  | nil => simp at e
  | @cons a b as bs h t ih =>
    cases i with
    | zero => cases (show some b = some p by simpa using e); exact ⟨a, rfl, h.2.1, h.2.2⟩
    | succ j => simpa using ih (i := j) (by simpa using e)
theorem turn_keysN {P : Program} {w : World} {K : PySem.W.Frag} {tg : Expr} {a : Addr} {x : DX} {es : Array DictEntry} {ep : Nat} (it : Addr) (hod : x.o.data = .dict es ep) : Turn P w K tg (Itkn K a x) [it] it (fun i h => h.IsKeyIter it a i x.xs.length ep) where
  mem := by simp
  obj := fun i h st b hb => by
    have e : b = it := by simpa using hb
    subst e
    obtain ⟨oi, e, c, dd⟩ := st
    exact ⟨oi, e, fun v z => by rw [dd] at z; cases z⟩
  keep := fun i h h' st k => st.at fun oi e => k it (by simp) oi e
  item := by
    intro X hP hw hK hc i pins s σ H E I hf st hg
    subst hP hw hK
    obtain ⟨g, hi⟩ := hg
    obtain ⟨f0, f1, f2, f3, f4, f5⟩ := hf it (by simp)
    obtain ⟨ys, _, _, _, ho⟩ := g.dict I
    obtain ⟨es', ep', hdt, en⟩ := g.ens
    obtain ⟨rfl, rfl⟩ := dict_ep hod hdt
    have hsz : es'.size = x.xs.length := by rw [← Paired.length en, Array.length_toList]
    obtain ⟨en', hen, hkey, _⟩ := en.get (List.getElem?_eq_getElem hi)
    refine next_key_item st ho hdt hsz (by rw [← Array.getElem?_toList]; exact hen) fun h' st' sb => ?_
    have I1 : Inv X pins σ H { s with heap := h' } := I.turned (t' := s.toks) (fun b ob hb e => (sb.2 b hb).trans e) f0 f1 f3 f4 f5
    obtain ⟨oi, e, c, dd⟩ := id st'
    exact ⟨en'.key, rfl, go_of (s := { s with heap := h' }) e c dd (by decide) ⟨.ref (x.xs[i]).2.1, H, I1, hkey, ⟨rfl, _, List.getElem?_eq_getElem hi, rfl⟩, st', fun b hb => (hf b hb).1⟩⟩
  done := by
    intro X hP hw hK hc i pins s σ H E I hf st hg
    subst hP hw hK
    obtain ⟨g, hi⟩ := hg
    obtain ⟨f0, f1, f2, f3, f4, f5⟩ := hf it (by simp)
    obtain ⟨ys, _, _, _, ho⟩ := g.dict I
    obtain ⟨es', ep', hdt, en⟩ := g.ens
    obtain ⟨rfl, rfl⟩ := dict_ep hod hdt
    have hsz : es'.size = x.xs.length := by rw [← Paired.length en, Array.length_toList]
    exact next_key_end (I.ok.hd hc) st ho hdt hsz hi fun h' eb => ⟨rfl, I.turned (t' := s.toks) (fun b ob hb e => eb b ob hb e) f0 f1 f3 f4 f5⟩
  self := fun A i s Q E st h => by
    refine wpAny_pyIter_slot st.typeIs F.slot_dict_keyiterator_iter (wpAny_call_entry F.slot_dict_keyiterator_iter st.typeIs F.entry_dict_keyiterator_iter ?_ (F.args_dict_keyiterator_iter_1 _))
    show wpAny _ _ (ret (.ref it)) _ _ s
    exact wpAny_pure ⟨_, rfl, "dict_keyiterator", _, st.typeIs, F.slot_dict_keyiterator_next.lookup, h⟩
def iKeysN (K : PySem.W.Frag) (td : TE) : TI := fun σ H R => td σ H fun v H1 => ∃ a x, v = .ref a ∧ DGood K H1 a x ∧ R (Itkn K a x) H1
theorem pi_keysN {tg : Expr} (he : PE X e td) : PI X tg e (iKeysN X.K td) := by
  refine ⟨fun pins s σ H R I h => ?_⟩
  refine thn (he.run pins s σ H _ I h) fun u s1 ⟨v, H1, I1, rx, a, x, ex, g, q⟩ => ?_
  subst ex
  obtain rfl : u = Value.ref a := rx
  obtain ⟨ys, _, _, _, ho⟩ := g.dict I1
  obtain ⟨es, ep, hdt, en⟩ := g.ens
  have hsz : es.size = x.xs.length := by rw [← Paired.length en, Array.length_toList]
  refine iter_keys g.sys ho g.ex hdt (pi_one (tk := s1.toks) I1 _ (turn_keysN _ hdt) ⟨_, Heap.get?_push_size _ rfl, rfl, ?_⟩ q)
  rw [hsz] <;> rfl
def itemsA : D → Option (List D)
  | .dct ds => some (ds.map fun p => keyB p.1)
  | d => itemsOf d
theorem itemsA_ne {d : D} (h : ∀ ds, d ≠ .dct ds) : itemsA d = itemsOf d := by
  cases d <;> first | rfl | exact (h _ rfl).elim
def iSeqA (f : Rho → Out (D × Rho)) : Rho → Out (List D × Rho) := fun ρ => (f ρ).bind fun p => (Out.of (itemsA p.1)).bind fun c => .ok (c, p.2)
theorem itAt_keys {K : PySem.W.Frag} {S : Hp} {a : Addr} {x : DX} {ds : List (NestedKey × D)} (h : S a = some (DT a x)) (t : DTok a x ds) (z : ds.length ≤ sizeLine) (r : AtL K S x.vs (dvs ds)) : ItAt K S (Itkn K a x) (ds.map fun p => keyB p.1) := by
  refine ⟨by rw [List.length_map]; exact z, fun i S' H' s1 s2 => ?_⟩
  have g : DGood K H' a x := good_of (s2 _ _ (s1 _ _ h)) t z (r.mono s1) s2
  refine ⟨fun hi => ⟨g, by rw [t.len]; rw [List.length_map] at hi; exact hi⟩, fun d hd => ?_⟩
  obtain ⟨r1, _⟩ := dct_split t r
  have hi : i < x.xs.length := by
    have := (List.getElem?_eq_some_iff.mp hd).1
    rw [List.length_map] at this
    rw [t.len]; exact this
  obtain ⟨v, ev, hat⟩ := r1.get hd
  refine ⟨⟨g, hi⟩, fun u H2 y => ?_⟩
  obtain ⟨rfl, p, ep, rfl⟩ := y
  rw [List.getElem?_map, ep] at ev
  cases ev
  exact ⟨S', Ext.refl s2, hat.mono s1⟩
theorem vi_seqA {tg : Expr} (he : VE X W os e f os1 false) : VI X W os tg e (iSeqA f) os1 := by
  obtain ⟨w0, p0, k0⟩ : VI X W os tg e (iSeq f) os1 := vi_seq he
  obtain ⟨t, pt, kt⟩ := he
  refine ⟨_, pi_or p0 (pi_keysN pt), fun S σ H ρ R rel P => ?_⟩
  by_cases hd : ∃ ds ρ1, f ρ = .ok (.dct ds, ρ1)
  · obtain ⟨ds, ρ1, hf⟩ := hd
    refine .inr (kt S σ H ρ _ rel ?_)
    unfold iSeqA at P
    rw [hf] at P ⊢
    intro v S1 H1 st1 rel1 q1
    cases (show At X.K S1 v (.dct ds) from q1) with
    | @dct a x _ h t z r => exact ⟨a, x, rfl, good_of (rel1.sub _ _ h) t z r rel1.sub, P _ S1 H1 st1 rel1 (itAt_keys h t z r)⟩
  · refine .inl (k0 S σ H ρ R rel ?_)
    have e : iSeqA f ρ = iSeq f ρ := by
      unfold iSeqA iSeq
      cases hf : f ρ with
      | ok z =>
        obtain ⟨d, ρ1⟩ := z
        show ((Out.of (itemsA d)).bind fun c => .ok (c, ρ1)) = (Out.of (itemsOf d)).bind fun c => .ok (c, ρ1)
        rw [itemsA_ne fun ds z => hd ⟨ds, ρ1, by rw [hf, z]⟩]
      | exc c fs => rfl
      | stuck => rfl
    rw [← e]
    exact P
end
end SW

set_option maxRecDepth 100000
/-! SW18: sorted, by a key too; of lists, tuples, dicts. -/
namespace SW
open PySem PySem.Spec PyProof.Rows L2
open PySem.W (EachIs dataLe AllAlike Sortable alike)

section
variable {X : Cx} {pins : List (Addr × Obj)} {σ : L2.St} {S H : Hp} {s : Shared} {E : Value → Shared → Prop}
theorem each_of_at (I : Inv X pins σ H s) (sub : Same S H) : ∀ {vs : List V} {ds : List D} {us : List Value} {ps : List PyData}, AtL X.K S vs ds → Vals vs us → ds.map D.py = ps.map some → EachIs (fun v p => ∃ as, Reads s.heap v p as) us ps
  | _, _, _, [], .nil, .nil, _ => .nil
  | _, _, _, _ :: _, .nil, .nil, e => by simp at e
  | _, _, _, [], .cons _ _, .cons _ _, e => by simp at e
  | _, _, _, p :: ps, .cons h t, .cons r rs, e => by
    rw [List.map_cons, List.map_cons] at e
    injection e with e1 e2
    exact .cons (Dp.reads I _ _ _ ((h.mono sub).dp e1) r) (each_of_at I sub t rs e2)
/-- a value that stands for a datum -/
def VAt (K : PySem.W.Frag) (S : Hp) (u : Value) (d : D) : Prop := ∃ v, RelV v u ∧ At K S v d
theorem each_at {K : PySem.W.Frag} {S : Hp} : ∀ {vs : List V} {ds : List D} {us : List Value}, AtL K S vs ds → Vals vs us → EachIs (VAt K S) us ds
  | _, _, _, .nil, .nil => .nil
  | _, _, _, .cons h t, .cons r rs => .cons ⟨_, r, h⟩ (each_at t rs)
theorem at_each {K : PySem.W.Frag} {S : Hp} {us : List Value} {ds : List D} (h : EachIs (VAt K S) us ds) : ∃ vs, Vals vs us ∧ AtL K S vs ds := by
  induction h with
  | nil => exact ⟨[], .nil, .nil⟩
  | cons q _ ih =>
    obtain ⟨v, r, a⟩ := q
    obtain ⟨vs, rs, as⟩ := ih
    exact ⟨v :: vs, .cons r rs, .cons a as⟩

/-- the key's call -/
theorem run_key {P : Value → Shared → Prop} {k : Nat} {fa : Addr} {fd : FuncData} {ps : List Str} {m : List D → Out (D × D)} (F : FnOk X.prog X.w X.K X.mg X.base (L2.CX X.prog X.w) k fa fd ps (spec X.K X.mg 1 none false m)) (hr : Room (k + 2) X.A) (hb : Binds X.K fd ps [])
    (I : Inv X pins σ H s) (sub : Same S H) {x : V} {u : Value} {d kd o : D} (hat : At X.K S x d) (rx : RelV x u) (hm : m [d] = .ok (kd, o))
    (fin : ∀ v S' H' u' s', Ext (fun _ => False) S H S' H' → At X.K S' v kd → RelV v u' → Inv X pins σ H' s' → Un (frs X.stack) [] H H' s.heap s'.heap → P u' s') : wpAny (model X.prog X.w) X.A.in1.in1 (call (.ref fa) [u]) P E s := by
  have r2 : Vals [x] [u] := .cons rx .nil
  have sp : spec X.K X.mg 1 none false m [x] H (fun v H' => ∃ S', Ext (fun _ => False) S H S' H' ∧ At X.K S' v kd) (fun _ _ _ => False) := by
    refine ⟨rfl, S, [d], rel_args (.cons hat .nil) sub, ?_⟩
    rw [hm]
    exact fun v S' H' x q _ => ⟨S', x.weak fun _ z => own_nil z, q⟩
  refine wpAny_call (codeAny_mono (F.run X.A.in1.in1 X.stack s H ⟨[u], []⟩ ([u] ++ []) [x] _ _ hr.in1.in1 I.env0.in1.in1 (hb s [u] I.kIn (by rw [← F.len _ _ _ _ sp]; rfl)) r2 sp) fun r s' hq => ?_)
  cases r with
  | error e =>
    obtain ⟨_, _, _, _, _, _, _, _, _, _, _, _, z⟩ := hq
    exact z.elim
  | ok fl =>
    cases fl with
    | ret u' =>
      obtain ⟨v, H', os, bare, un, hok, r, S', x, q⟩ := hq
      exact fin v S' H' u' s' x q r (I.call' os un hok bare fun b z => absurd z (by simp)) un
    | _ => exact hq.elim
end

/-! ### the keys of items -/
def keysOf (m : List D → Out (D × D)) : List D → Option (List (D × PyData))
  | [] => some []
  | d :: ds => match m [d] with
    | .ok (kd, _) => (match kd.py, keysOf m ds with
      | some p, some ps => some ((kd, p) :: ps)
      | _, _ => none)
    | _ => none
def sortableB (ps : List PyData) : Bool := ps.all (fun p => match p with | .tuple (_ :: _) => true | _ => false) || ps.all fun p => match p with | .none => false | .tuple _ => false | _ => true
def keysOk (ps : List PyData) : Bool := ps.all (fun p => ps.all fun q => alike p q) && sortableB ps && ps.all fun p => decide (p.depth ≤ 40)
theorem keysOk_iff {ps : List PyData} (h : keysOk ps = true) : AllAlike ps ∧ Sortable ps ∧ ∀ p ∈ ps, p.depth ≤ 40 := by
  unfold keysOk at h
  rw [Bool.and_eq_true, Bool.and_eq_true] at h
  obtain ⟨⟨h1, h2⟩, h3⟩ := h
  refine ⟨fun d hd d' hd' => List.all_eq_true.mp (List.all_eq_true.mp h1 d hd) d' hd', ?_, fun p hp => of_decide_eq_true (List.all_eq_true.mp h3 p hp)⟩
  unfold sortableB at h2
  rcases Bool.or_eq_true_iff.mp h2 with h | h
  · refine .inl fun d hd => ?_
    have q := List.all_eq_true.mp h d hd
    split at q
    · exact ⟨_, _, rfl⟩
    · cases q
  · refine .inr fun d hd => ?_
    have q := List.all_eq_true.mp h d hd
    split at q
    · cases q
    · cases q
    · rename_i h1 h2
      exact ⟨h1, fun xs => h2 xs⟩
/-- a datum's key -/
def keyFn (m : List D → Out (D × D)) (d : D) : PyData := match m [d] with
  | .ok (kd, _) => (match kd.py with | some p => p | none => .none)
  | _ => .none
theorem keysOf_some {m : List D → Out (D × D)} : ∀ {ds : List D} {ks : List (D × PyData)}, keysOf m ds = some ks → ks.length = ds.length ∧ ks.map (·.2) = ds.map (keyFn m) ∧ ∀ (j : Nat) (d : D), ds[j]? = some d → ∃ kd o p, m [d] = .ok (kd, o) ∧ kd.py = some p ∧ ks[j]? = some (kd, p)
  | [], _, e => by cases e; exact ⟨rfl, rfl, fun j d h => by simp at h⟩
  | d :: ds, ks, e => by
    unfold keysOf at e
    cases hm : m [d] with
    | ok z =>
      obtain ⟨kd, o⟩ := z
      rw [hm] at e
      dsimp only at e
      cases hp : kd.py with
      | none => rw [hp] at e; cases e
      | some p =>
        cases hk : keysOf m ds with
        | none => rw [hp, hk] at e; cases e
        | some ps =>
          rw [hp, hk] at e
          cases e
          obtain ⟨h1, h2, h3⟩ := keysOf_some hk
          refine ⟨by rw [List.length_cons, List.length_cons, h1], ?_, fun j d' hd => ?_⟩
          · rw [List.map_cons, List.map_cons, h2]
            congr 1
            unfold keyFn
            rw [hm]
            dsimp only
            rw [hp]
          · cases j with
            | zero => cases (show some d = some d' by simpa using hd); exact ⟨kd, o, p, hm, hp, rfl⟩
            | succ j => simpa using h3 j d' (by simpa using hd)
    | exc c fs => rw [hm] at e; cases e
    | stuck => rw [hm] at e; cases e
/-- sorted by a key -/
def sortK (m : List D → Out (D × D)) (ds : List D) : Option (List D) := match keysOf m ds with
  | some ks => if keysOk (ks.map (·.2)) = true then some (ds.mergeSort (dataLe false (keyFn m))) else none
  | none => none

section
variable {X : Cx} {pins : List (Addr × Obj)} {σ : L2.St} {S H : Hp} {s : Shared} {E : Value → Shared → Prop} {vsV : List V} {vs : List Value} {ds : List D} {ks : List (D × PyData)} {a kS : Addr} {e1 : Nat}
  {k : Nat} {fa : Addr} {fd : FuncData} {ps : List Str} {m : List D → Out (D × D)}
/-- where the sort leaves off -/
def SortEnd (X : Cx) (pins : List (Addr × Obj)) (σ : L2.St) (S H : Hp) (a : Addr) (out : List D) (s' : Shared) : Prop := ∃ S' H' ys, Inv X pins σ (upd H' a (.lst ys)) s' ∧ Ext (fun _ => False) S H S' H' ∧ H' a = none ∧ AtL X.K S' ys out
theorem loop_keys (F : FnOk X.prog X.w X.K X.mg X.base (L2.CX X.prog X.w) k fa fd ps (spec X.K X.mg 1 none false m)) (hr : Room (k + 2) X.A) (hb : Binds X.K fd ps []) (hks : keysOf m ds = some ks) (hok : keysOk (ks.map (·.2)) = true)
    (I : Inv X pins σ H s) (sub : Same S H) (hat : AtL X.K S vsV ds) (rv : Vals vsV vs) (hz : ds.length ≤ sizeLine) (fk : FpOk X pins H kS) (fp : FpOk X pins H a) (hka : kS ≠ a)
    (nk : s.heap.get? kS = some (seqObj "list" #[] 0)) (na : s.heap.get? a = some (seqObj "list" #[] e1)) :
    wpAny (model X.prog X.w) X.A.in1.in1 (ksk_rest a (.ref fa) false vs.toArray e1 (.ref kS)) (fun fn s' => fn = .done (.ret .none) ∧ SortEnd X pins σ S H a (ds.mergeSort (dataLe false (keyFn m))) s') E s := by
  obtain ⟨lk, mk, gk⟩ := keysOf_some hks
  obtain ⟨hal, hso, hdp⟩ := keysOk_iff hok
  have lv : vs.length = ds.length := by rw [← rv.length, hat.length]
  have upF : ∀ {b : Addr} {H' : Hp}, FpOk X pins H b → H' b = none → FpOk X pins H' b := fun {b H'} f n => ⟨n, f.2⟩
  unfold ksk_rest
  refine wpAny_bind (wpAny_rule ?_)
  first
    | rw [List.forIn_toArray]
    | rw [← Array.forIn_toList]
  refine wpAny_bind (PyProof.Rows.ksk_fold (fun j s' => ∃ S' H' kA c kV, Inv X pins σ H' s' ∧ Ext (fun _ => False) S H S' H' ∧ s'.heap.get? kS = some (seqObj "list" kA c) ∧ s'.heap.get? a = some (seqObj "list" #[] e1) ∧ H' kS = none ∧ H' a = none ∧ Vals kV kA.toList ∧ AtL X.K S' kV ((ks.take j).map (·.1))) vs 0 s
    ⟨S, H, #[], 0, [], I, Ext.refl sub, nk, na, fk.1, fp.1, .nil, by rw [List.take_zero]; exact .nil⟩ ?turn ?last)
  case turn =>
    rintro j u s' hu ⟨S', H', kA, c, kV, I', x', nk', na', nkH, naH, rk, ak⟩
    rw [Nat.zero_add] at ak ⊢
    have hj : j < ds.length := by
      have q := (List.getElem?_eq_some_iff.mp hu).1
      omega
    obtain ⟨kd, o, p, hm, hp, hkj⟩ := gk j _ (List.getElem?_eq_getElem hj)
    obtain ⟨v, ev, hv⟩ := hat.get (List.getElem?_eq_getElem hj)
    obtain ⟨u', eu', ru⟩ := rv.get ev
    rw [hu] at eu'
    cases eu'
    have hsz : kA.size ≤ ds.length := by
      have q1 : kV.length = kA.size := (L2.Vals.length rk).trans Array.length_toList
      have q2 : kV.length = min j ks.length := (AtL.length ak).trans (by rw [List.length_map, List.length_take])
      have q3 := Nat.min_le_right j ks.length
      omega
    refine wpAny_bind (wpAny_attempt (wpAny_mono (run_key (E := fun _ _ => False) F hr hb I' x'.sh (hv.mono x'.s) ru hm fun v2 S2 H2 u2 s2 x2 q2 r2 I2 un => (show ∃ S2 H2 v2, Inv X pins σ H2 s2 ∧ Ext (fun _ => False) S' H' S2 H2 ∧ At X.K S2 v2 kd ∧ RelV v2 u2 ∧ Un (frs X.stack) [] H' H2 s'.heap s2.heap from ⟨S2, H2, v2, I2, x2, q2, r2, un⟩)) (fun u2 s2 q => ?_) fun _ _ z => z.elim))
    obtain ⟨S2, H2, v2, I2, x2, q2, r2, un⟩ := q
    dsimp only
    have fr : ∀ {b : Addr}, FpOk X pins H b → b ∉ frs X.stack := fun {b} f z => by
      rcases List.mem_cons.mp (I2.stkSub b z) with z | z
      · exact f.2.1 z
      · exact f.2.2.1 z
    have nk2 := un.keep kS _ nk' nkH (fr fk) (by simp)
    have na2 := un.keep a _ na' naH (fr fp) (by simp)
    have nkH2 := un.free kS _ nk' nkH (by simp)
    have naH2 := un.free a _ na' naH (by simp)
    obtain ⟨c3, hc3⟩ : ∃ c3, (s2.heap.update kS (Obj.mapSeq (·.push u2))).get? kS = some (seqObj "list" (kA.push u2) c3) := ⟨_, get?_update_seq nk2 (·.push u2)⟩
    have sb := Heap.SameBut.update s2.heap kS (Obj.mapSeq (·.push u2))
    refine wpAny_bind (listUpdate_at nk2 rfl ?_ (Nat.le_trans hsz hz) (by rw [Array.size_push]; omega))
    have fk2 := upF fk nkH2
    refine wpAny_pure ⟨rfl, S2, H2, kA.push u2, c3, kV ++ [v2], I2.turned (t' := s2.toks) (fun b ob hb e => (sb.2 b hb).trans e) fk2.1 fk2.2.1 fk2.2.2.2.1 fk2.2.2.2.2.1 fk2.2.2.2.2.2, x'.trans x2 fun c q => .inl q, hc3, (sb.2 a (Ne.symm hka)).trans na2, nkH2, naH2, ?_, ?_⟩
    · rw [Array.toList_push]; exact Vals.append rk (.cons r2 .nil)
    · rw [List.take_add_one, hkj]
      show AtL X.K S2 (kV ++ [v2]) ((ks.take j ++ [(kd, p)]).map (·.1))
      rw [List.map_append]
      exact (ak.mono x2.s).append (.cons q2 .nil)
  case last =>
    rintro s' ⟨S', H', kA, c, kV, I', x', nk', na', nkH, naH, rk, ak⟩
    rw [Nat.zero_add, lv, ← lk, List.take_length] at ak
    have each : EachIs (fun v p => ∃ as, Reads s'.heap v p as) kA.toList (ds.map (keyFn m)) := by
      rw [← mk]
      refine each_of_at I' x'.sh ak rk ?_
      refine List.ext_getElem? fun j => ?_
      simp only [List.getElem?_map]
      cases hk : ks[j]? with
      | none => rfl
      | some y =>
        have hjl : j < ds.length := by
          have := (List.getElem?_eq_some_iff.mp hk).1
          omega
        obtain ⟨kd, o, p, _, hp, hkj⟩ := gk j _ (List.getElem?_eq_getElem hjl)
        rw [hk] at hkj
        cases hkj
        show some kd.py = some (some p)
        rw [hp]
    have lA : kA.size = vs.length := by
      have q := each.length
      rw [Array.length_toList, List.length_map] at q
      omega
    rw [mk] at hal hso hdp
    refine wpAny_bind (listItems_at nk' rfl ?_)
    have hu := hr.un
    refine PySem.W.keyH_end (κ := PySem.W.dataKind s'.heap (ds.map (keyFn m))) (h₁ := PySem.W.hideAll s'.heap [kS]) (fun b o _ e => PySem.W.of_hideAll [kS] e) (PySem.W.hideAll_none [kS] List.mem_cons_self) nk' na' hka
      (PySem.W.SortsAt.data (s := s') each hal hso fun d hd => by have := hdp d hd; show X.A.units + 1 + 1 + d.depth < cLine; omega) lA (by rw [lv]; exact hz) fun h' tk c' kp na3 => ⟨rfl, ?_⟩
    have outE : EachIs (VAt X.K S') (PySem.W.sortVals (PySem.W.dataKind s'.heap (ds.map (keyFn m))) false kA.toList vs) (ds.mergeSort (dataLe false (keyFn m))) :=
      PySem.W.keyedOut_each (keyFn m) ⟨s'.heap, kA.toList, hal, rfl, each⟩ (each_at (hat.mono x'.s) rv)
    obtain ⟨ys, ry, ay⟩ := at_each outE
    have I4 : Inv X pins σ H' { s' with heap := h', toks := tk } := I'.turnedL (ch := [a, kS]) (t' := tk) (fun b ob hb e => kp b ob (fun z => hb (by simp [z])) (PySem.W.hideAll_get [kS] e fun z => hb (by simp at z; simp [z]))) fun b hb => by
      rcases List.mem_cons.mp hb with z | z
      · rw [z]; exact upF fp naH
      · rw [List.mem_singleton.mp z]; exact upF fk nkH
    have lz : ys.length ≤ sizeLine := by rw [ay.length, List.length_mergeSort]; exact hz
    have I5 : Inv X pins σ (upd H' a (.lst ys)) { s' with heap := h', toks := tk } := Inv.take (s := { s' with heap := h', toks := tk }) (h' := h') (t' := tk) I4 (fun b ob _ e => e) (upF fp naH) ⟨lz, _, c', ry, na3⟩
    exact ⟨S', H', ys, I5, x', naH, ay⟩
end
end SW

set_option maxRecDepth 100000
/-! SW19: sorted as a call; what is collected of a list, a tuple, a dict. -/
namespace SW
open PySem PySem.Spec PyProof.Rows L2
open PySem.W (EachIs dataLe AllAlike Sortable alike)

/-- the items of what x is -/
def ColAt (K : PySem.W.Frag) (H : Hp) (x : V) (vs : List V) : Prop :=
  (∃ a, x = .ref a ∧ SqL K H a vs) ∨ (∃ a, x = .ref a ∧ SqT K H a vs) ∨ ∃ a dx, x = .ref a ∧ DGood K H a dx ∧ vs = dx.xs.map fun p => V.ref p.2.1
theorem col_at {K : PySem.W.Frag} {S H : Hp} {v : V} {d : D} {ds : List D} (h : At K S v d) (sub : Same S H) (e : itemsA d = some ds) : ∃ vs, ColAt K H v vs ∧ AtL K S vs ds ∧ ds.length ≤ sizeLine := by
  cases h with
  | lst h z r => cases e; exact ⟨_, .inl ⟨_, rfl, .of (sub _ _ h)⟩, r, z⟩
  | tup h z r => cases e; exact ⟨_, .inr (.inl ⟨_, rfl, sqT_mono sub h⟩), r, z⟩
  | scr h z => cases e; exact ⟨_, .inl ⟨_, rfl, sub.seq h⟩, AtL.ints _, by rw [List.length_map]; exact z⟩
  | dct h t z r => cases e; exact ⟨_, .inr (.inr ⟨_, _, rfl, good_of (sub _ _ h) t z r sub, rfl⟩), (dct_split t r).1, by rw [List.length_map]; exact z⟩
  | _ => cases e
section
variable {prog : Program} {w : World} {A : Around} {E : Value → Shared → Prop} {s : Shared}
theorem col_tuple {l : Addr} {vs : List Value} {Q : List Value → Shared → Prop} (hl : IsTup s.heap l vs.toArray) (hsz : vs.length ≤ sizeLine)
    (h : ∀ h', (∀ b o, s.heap.get? b = some o → h'.get? b = some o) → Q vs { s with heap := h' }) : wpAny (model prog w) A (collect (.ref l)) Q E s := by
  obtain ⟨o, ho, hc, n, hd⟩ := id hl
  unfold collect
  refine wpAny_bind (wpAny_runValue (codeAny_builtin entry_proto_collect' ?_))
  show wpAny _ _ (do again (.builtin "list.__iadd__" ⟨[← newList [], .ref l], []⟩)) _ _ s
  refine wpAny_bind (wpAny_newList (wpAny_pure ⟨Code.quiet_builtin _ (by decide +kernel), codeAny_builtin entry_list_iadd' ?_⟩))
  have up : ∀ b q, s.heap.get? b = some q → (s.heap.push (seqObj "list" #[] 0)).get? b = some q := fun b q e => Heap.get?_push_of_some _ e
  have nw : (s.heap.push (seqObj "list" #[] 0)).get? s.heap.objs.size = some (seqObj "list" #[] 0) := Heap.get?_push_size _ rfl
  show wpAny _ _ (Builtin.List.listExtendWith (.ref s.heap.objs.size) (.ref l) (.ref s.heap.objs.size)) _ _ { s with heap := s.heap.push (seqObj "list" #[] 0) }
  unfold Builtin.List.listExtendWith
  refine wpAny_bind (wpAny_typeOf (T := "tuple") ⟨o, up _ _ ho, hc⟩ ?_)
  rw [if_pos (by rw [show (Value.type "tuple" == Value.type "tuple") = true from by decide, Bool.or_true])]
  refine wpAny_bind (listItems_at (up _ _ ho) hd ?_)
  refine wpAny_bind (listItems_at nw rfl ?_)
  rw [if_neg (by simp)]
  refine wpAny_bind (listUpdate_at nw rfl ?_ (Nat.zero_le _) (by show (#[] ++ vs.toArray).size ≤ sizeLine + 1; simp only [Array.size_append, List.size_toArray, List.length_nil]; omega))
  refine wpAny_pure ?_
  show wpAny (model prog w) A (do
      let o ← load s.heap.objs.size
      match o.data with
      | .seq xs _ => pure xs.toList
      | _ => unsupported "internal:collect") Q E { s with heap := (s.heap.push (seqObj "list" #[] 0)).update s.heap.objs.size (Obj.mapSeq (· ++ vs.toArray)) }
  refine wpAny_bind (wpAny_load (get?_update_seq nw _) ?_)
  show wpAny _ _ (pure ((#[] : Array Value) ++ vs.toArray).toList) Q E _
  have e : ((#[] : Array Value) ++ vs.toArray).toList = vs := by simp
  rw [e]
  refine wpAny_pure (h _ fun b q eb => ?_)
  exact ((Heap.SameBut.update ..).2 b (Nat.ne_of_lt (Heap.lt_size eb))).trans (up b q eb)
end
section
variable {X : Cx} {pins : List (Addr × Obj)} {σ : L2.St} {S H : Hp} {s : Shared} {E : Value → Shared → Prop}
theorem col_run {A : Around} (I : Inv X pins σ H s) (hh : A.handled = none) {x : V} {vs : List V} {u : Value} (c : ColAt X.K H x vs) (rx : RelV x u) :
    wpAny (model X.prog X.w) A (collect u) (fun us s1 => Inv X pins σ H s1 ∧ Vals vs us ∧ us.length ≤ sizeLine) E s := by
  rcases c with ⟨a, rfl, h⟩ | ⟨a, rfl, h⟩ | ⟨a, dx, rfl, g, rfl⟩
  · obtain rfl : u = Value.ref a := rx
    obtain ⟨its, rv, p, z⟩ := I.list h
    refine collect_list p.isList ⟨I.kept (t' := s.toks) fun b q e => ?_, rv, by rw [← L2.Vals.length rv]; exact z⟩ (by rw [← L2.Vals.length rv]; exact z)
    exact ((Heap.SameBut.update ..).2 b (Nat.ne_of_lt (Heap.lt_size e))).trans (Heap.get?_push_of_some _ e)
  · obtain rfl : u = Value.ref a := rx
    obtain ⟨its, rv, p, z⟩ := I.tuple h
    have z' : its.length ≤ sizeLine := by rw [← L2.Vals.length rv]; exact z
    exact col_tuple p z' fun h' k => ⟨I.kept (t' := s.toks) k, rv, z'⟩
  · obtain rfl : u = Value.ref a := rx
    obtain ⟨ys, _, _, _, ho⟩ := g.dict I
    obtain ⟨es, ep, hdt, en⟩ := g.ens
    have hsz : es.size = dx.xs.length := by rw [← Paired.length en, Array.length_toList]
    have z : es.size ≤ sizeLine := by rw [hsz]; exact g.len
    refine PySem.W.kdu_collect (PySem.KdlSrc.rawDict (es := es) (ep := ep) g.sys) hh ⟨dx.o, ho, g.ex, hdt⟩ z fun h' tk acc k hacc => ⟨I.kept k, ?_, ?_⟩
    · have pr : ∀ {l : List Value} {xs : XL}, l.length = xs.length → (∀ (j : Nat) (v : Value), l[j]? = some v → ∃ p : NestedKey × Addr × V, xs[j]? = some p ∧ v = .ref p.2.1) → Vals (xs.map fun p => V.ref p.2.1) l := by
        intro l
        induction l with
        | nil => intro xs e _; cases xs with | nil => exact .nil | cons _ _ => simp at e
        | cons v l ih =>
          intro xs e h
          cases xs with
          | nil => simp at e
          | cons p xs =>
            obtain ⟨p', e1, e2⟩ := h 0 v rfl
            cases (show some p = some p' by simpa using e1)
            exact .cons e2 (ih (by simpa using e) fun j v' hv => by simpa using h (j + 1) v' (by simpa using hv))
      refine pr (by rw [Array.length_toList, hacc.1, hsz]) fun j v hv => ?_
      have hv' : acc[j]? = some v := by rw [← Array.getElem?_toList]; exact hv
      obtain ⟨hi, e⟩ := hacc.2 j v hv'
      obtain ⟨en', hen, hk, _⟩ := en.get (List.getElem?_eq_getElem (by omega : j < dx.xs.length))
      rw [Array.getElem?_toList, Array.getElem?_eq_getElem hi] at hen
      cases hen
      exact ⟨_, List.getElem?_eq_getElem (by omega), by rw [e, hk]⟩
    · rw [Array.length_toList, hacc.1]; exact z
end

/-- sorted(e, key=f), sorted(e) -/
def rSortK (X : Cx) (fa : Addr) (m : List D → Out (D × D)) : List V → List V → Hp → VK → Prop := fun vs zs H Q => ∃ x S d ds out, vs = [x] ∧ zs = [.ref fa] ∧ Same S H ∧ At X.K S x d ∧ itemsA d = some ds ∧ sortK m ds = some out ∧
  ∀ S' H' p ys, Ext (fun _ => False) S H S' H' → H' p = none → AtL X.K S' ys out → Q (.ref p) (upd H' p (.lst ys))
section
variable {X : Cx} {k : Nat} {fa : Addr} {fd : FuncData} {ps : List Str} {m : List D → Out (D × D)}
theorem sortK_some {ds out : List D} (h : sortK m ds = some out) : ∃ ks, keysOf m ds = some ks ∧ keysOk (ks.map (·.2)) = true ∧ out = ds.mergeSort (dataLe false (keyFn m)) := by
  unfold sortK at h
  split at h
  · rename_i ks hk
    split at h
    · rename_i ho
      cases h
      exact ⟨ks, hk, ho, rfl⟩
    · cases h
  · cases h
theorem call_sortK (hcalm : X.calm = true) (F : FnOk X.prog X.w X.K X.mg X.base (L2.CX X.prog X.w) k fa fd ps (spec X.K X.mg 1 none false m)) (hr : Room (k + 2) X.A) (hb : Binds X.K fd ps []) : CallRK X (.builtin "sorted") [Str.ofString "key"] (rSortK X fa m) := by
  intro pins s σ H xs zs us ws Q I r rz h
  obtain ⟨x, S, d, ds, out, rfl, rfl, sub, hat, hit, hso, q⟩ := h
  obtain ⟨u, rfl, rx⟩ := vals1 r
  obtain ⟨w1, rfl, rw1⟩ := vals1 rz
  obtain rfl : w1 = Value.ref fa := rw1
  obtain ⟨ks, hks, hok, rfl⟩ := sortK_some hso
  obtain ⟨vs, hc, hvs, hz⟩ := col_at hat sub hit
  have lvs := hvs.length
  refine call_function_entry_kw kind_sorted plain_sorted entry_sorted (PyProof.Rows.ksk_s1 _ _) ?_
  unfold Builtin.«sorted»
  refine wpAny_bind (m := checkCount "sorted" 1 1 _) (wpAny_pure (?_))
  refine wpAny_bind (wpAny_mono (col_run (A := X.A.in1) (E := X.xe) I hr.hd hc rx) (fun its s1 q1 => ?_) fun _ _ z => z)
  obtain ⟨I1, rv, zl⟩ := q1
  refine wpAny_bind (wpAny_newList ?_ zl)
  have nw : (s1.heap.push (seqObj "list" its.toArray 0)).get? s1.heap.objs.size = some (seqObj "list" its.toArray 0) := Heap.get?_push_size _ rfl
  have hn := I1.hok.fresh (Nat.le_refl s1.heap.objs.size)
  have I2 : Inv X pins σ H { s1 with heap := s1.heap.push (seqObj "list" its.toArray 0) } := I1.kept (t' := s1.toks) fun b o e => Heap.get?_push_of_some _ e
  have fp := I1.fpOk (Nat.le_refl s1.heap.objs.size) hn
  refine wpAny_bind (wpAny_holding (wpAny_call_entry_kw slot_list_sort ⟨_, nw, rfl⟩ entry_list_sort ?sort (PyProof.Rows.ksk_l1 _ _)))
  case sort =>
    show wpAny (model X.prog X.w) X.A.in1.in1 (Builtin.«list.sort» ⟨[.ref s1.heap.objs.size], [(Str.ofString "key", .ref fa)]⟩) _ _ { s1 with heap := s1.heap.push (seqObj "list" its.toArray 0) }
    rw [PyProof.Rows.ksk_t1]
    unfold PyProof.Rows.ksk_tree
    refine wpAny_bind (listItems_at nw rfl ?_)
    obtain ⟨e1, ne⟩ : ∃ e1, ((s1.heap.push (seqObj "list" its.toArray 0)).update s1.heap.objs.size (Obj.mapSeq fun _ => (#[] : Array Value))).get? s1.heap.objs.size = some (seqObj "list" #[] e1) := ⟨_, get?_update_seq nw fun _ => #[]⟩
    refine wpAny_bind (listUpdate_at nw rfl ?_ (by rw [List.size_toArray]; exact zl) (Nat.zero_le _))
    have sb := Heap.SameBut.update (s1.heap.push (seqObj "list" its.toArray 0)) s1.heap.objs.size (Obj.mapSeq fun _ => (#[] : Array Value))
    have I3 : Inv X pins σ H { s1 with heap := (s1.heap.push (seqObj "list" its.toArray 0)).update s1.heap.objs.size (Obj.mapSeq fun _ => (#[] : Array Value)) } :=
      I2.turned (t' := s1.toks) (fun b ob hb e => (sb.2 b hb).trans e) fp.1 fp.2.1 fp.2.2.2.1 fp.2.2.2.2.1 fp.2.2.2.2.2
    refine wpAny_bind (seqEpoch_at ne rfl ?_)
    refine wpAny_bind (wpAny_newTuple ?_ zl)
    refine wpAny_bind (wpAny_newList ?_ (Nat.zero_le _))
    refine wpAny_holding ?_
    generalize hg : (s1.heap.push (seqObj "list" its.toArray 0)).update s1.heap.objs.size (Obj.mapSeq fun _ => (#[] : Array Value)) = g at ne I3
    have hgs : g.objs.size = s1.heap.objs.size + 1 := by rw [← hg, Heap.size_update, Heap.size_push]
    have I4 : Inv X pins σ H { s1 with heap := (g.push (seqObj "tuple" its.toArray 0)).push (seqObj "list" #[] 0) } :=
      I3.kept (t' := s1.toks) fun b o e => Heap.get?_push_of_some _ (Heap.get?_push_of_some _ e)
    have htl : s1.heap.objs.size < (g.push (seqObj "tuple" its.toArray 0)).objs.size := by rw [Heap.size_push, hgs]; omega
    have hts : (g.push (seqObj "tuple" its.toArray 0)).objs.size = s1.heap.objs.size + 2 := by rw [Heap.size_push, hgs]
    have nk : ((g.push (seqObj "tuple" its.toArray 0)).push (seqObj "list" #[] 0)).get? (g.push (seqObj "tuple" its.toArray 0)).objs.size = some (seqObj "list" #[] 0) := Heap.get?_push_size _ rfl
    have fk : FpOk X pins H (g.push (seqObj "tuple" its.toArray 0)).objs.size := I1.fpOk (Nat.le_of_lt htl) (I1.hok.fresh (Nat.le_of_lt htl))
    refine wpAny_mono (loop_keys (E := X.xe) F hr hb hks hok I4 sub hvs rv hz fk fp (Nat.ne_of_gt htl) nk (Heap.get?_push_of_some _ (Heap.get?_push_of_some _ ne))) (fun fn s' hf => ?_) fun _ _ z => z
    obtain ⟨rfl, S', H', ys, I5, x5, n5, a5⟩ := hf
    exact ⟨_, rfl, wpAny_pure ⟨_, rfl, .ref s1.heap.objs.size, _, I5, rfl, q S' H' _ ys x5 n5 a5⟩⟩
end
section
variable {X : Cx} {W : WX} {os os1 : Os} {e : Expr} {f : Rho → Out (D × Rho)} {pos p pk kp : Pos} {k : Nat} {fa : Addr} {fd : FuncData} {ps : List Str} {m : List D → Out (D × D)}
def eSortK (m : List D → Out (D × D)) (f : Rho → Out (D × Rho)) : Rho → Out (D × Rho) := fun ρ => (f ρ).bind fun p => (Out.of ((itemsA p.1).bind (sortK m))).bind fun c => .ok (.lst c, p.2)
theorem ve_sortK {y : Str} (F : FnOk X.prog X.w X.K X.mg X.base (L2.CX X.prog X.w) k fa fd ps (spec X.K X.mg 1 none false m)) (hr : Room (k + 2) X.A) (hmf : X.mg y = some (.ref fa)) (hb : Binds X.K fd ps []) (ha : VE X W os e f os1 false) (hm : X.mg "sorted" = none) (hle : Le os1 os := by rfl) (hc : X.calm = true := by rfl)
    (hg : Gl X "sorted" := by rfl) (hgy : Gl X y := by rfl) (hdb : (y == ("__debug__" : Str)) = false := by decide) (he1 : starEach [e] X.env = (false, eval e X.env) :: starEach [] X.env := by rfl)
    (he : backTo pos (starEach [e] X.env) = (false, eval e X.env) :: backTo pos (starEach [] X.env) := by rfl) (hpl : (backTo pos (starEach [e] X.env)).any (·.1) = false := by rfl)
    (hall : (backToKw pos (keywordEach [⟨some "key", .Name y pk, kp⟩] X.env)).all (·.1.isSome) = true := by rfl) (hnone : (backToKw pos (keywordEach [⟨some "key", .Name y pk, kp⟩] X.env)).any (·.1.isNone) = false := by rfl) (hks : (backToKw pos (keywordEach [⟨some "key", .Name y pk, kp⟩] X.env)).filterMap (·.1) = [Str.ofString "key"] := by rfl) :
    VE X W os (.Call (.Name "sorted" p) [e] [⟨some "key", .Name y pk, kp⟩] pos) (eSortK m f) os1 true := by
  obtain ⟨ta, pa, ka⟩ := ha
  refine ⟨_, pe_callBK (call_sortK hc F hr hb) hg hm (by decide +kernel) (pa_cons pa pa_nil he1) (pk_cons (pe_glob (v := .ref fa) hgy hmf rfl hdb) pk_nil) (by decide) (by decide) he hpl hall hnone hks, fun S σ H ρ Q rel P => ?_⟩
  refine ka S σ H ρ _ rel (Post.seq P (fun z => z) (fun c fs p => p) fun d ρ1 v S1 H1 st1 rel1 q1 P1 => ?_)
  have P1 := P1.step RV.ok st1
  dsimp only at P1
  cases hi : itemsA d with
  | none => rw [hi] at P1; exact P1.elim
  | some ds =>
    rw [hi] at P1
    cases hs : sortK m ds with
    | none =>
      have P1 : Post X W S1 H1 os1 σ os1 (RV X.K true) Q ((Out.of (sortK m ds)).bind fun c => .ok (.lst c, ρ1)) := P1
      rw [hs] at P1
      exact P1.elim
    | some out =>
      have P1 : Post X W S1 H1 os1 σ os1 (RV X.K true) Q ((Out.of (sortK m ds)).bind fun c => .ok (.lst c, ρ1)) := P1
      rw [hs] at P1
      refine ⟨v, S1, d, ds, out, rfl, rfl, rel1.sub, q1, hi, hs, fun S' H' l ys x nl hys => ?_⟩
      have xx := Ext.newO (O := fun _ => False) (o := .lst ys) x.sh nl
      obtain ⟨ks, _, _, rfl⟩ := sortK_some hs
      have hz : (ds.mergeSort (dataLe false (keyFn m))).length ≤ sizeLine := by
        rw [List.length_mergeSort]
        obtain ⟨_, _, _, hz⟩ := col_at (show At X.K S1 v d from q1) rel1.sub hi
        exact hz
      have x2 := x.trans xx fun c q => .inl q
      exact P1 (.ref l) S' (upd H' l (.lst ys)) (Stp.of_ext x2) (rel1.ext0 x2) ⟨.mkL (x.sh.free nl) upd_same hz hys, fun a e => by cases e; exact x.there _ nl⟩
end
end SW

set_option maxRecDepth 100000
/-! SW20: max(.., default=..), sorted(..), dict(..) of pairs. -/
namespace SW
open PySem PySem.Spec PyProof.Rows L2
open PySem.W (EachIs dataLe AllAlike Sortable alike)

/-! ### max(xs, default=z), xs a list or a tuple of whole numbers -/
def intsIn : D → Option (List Int)
  | .lst ds => intsOf ds
  | .tup ds => intsOf ds
  | _ => none
def foldM (mx : Bool) (n : Int) (ns : List Int) : Int := ns.foldl (fun a b => if mx = true then max a b else min a b) n
def mmDef (mx : Bool) (d z : D) : Option D := match intsIn d with
  | some [] => some z
  | some (n :: ns) => some (.int (foldM mx n ns))
  | none => none
theorem foldM_max (n : Int) (ns : List Int) : foldM true n ns = ns.foldl max n := rfl
theorem foldM_min (n : Int) (ns : List Int) : foldM false n ns = ns.foldl min n := rfl
def rMM (K : PySem.W.Frag) (mx : Bool) : List V → List V → Hp → VK → Prop := fun vs zs H Q => ∃ a ns z, vs = [.ref a] ∧ zs = [z] ∧ (SqL K H a (ns.map V.int) ∨ SqT K H a (ns.map V.int)) ∧ match ns with
  | [] => Q z H
  | n :: ns => Q (.int (foldM mx n ns)) H
theorem ints_each : ∀ {ns : List Int} {us : List Value}, Vals (ns.map V.int) us → us.length = ns.length ∧ ∀ h : Heap, ReadsAll h us (ns.map PyData.int) []
  | [], _, r => by rw [List.map_nil] at r; cases r; exact ⟨rfl, fun _ => .nil⟩
  | n :: ns, _, r => by
    rw [List.map_cons] at r
    cases r with
    | cons h t =>
      obtain ⟨tk, rfl⟩ := h
      obtain ⟨l, q⟩ := ints_each t
      exact ⟨by rw [List.length_cons, List.length_cons, l], fun h => .cons (as := []) (bs := []) (.int n tk) (q h)⟩
section
variable {X : Cx}
theorem alike_ns (ns : List Int) : PySem.W.AlikeAll (ns.map PyData.int) := by
  refine ⟨fun x hx y hy => ?_, fun x hx => ?_⟩
  · obtain ⟨i, _, rfl⟩ := List.mem_map.mp hx
    obtain ⟨j, _, rfl⟩ := List.mem_map.mp hy
    rfl
  · obtain ⟨i, _, rfl⟩ := List.mem_map.mp hx
    intro z; cases z
theorem depth_ns : ∀ ns : List Int, PyData.depthAll (ns.map PyData.int) = 0
  | [] => by simp [PyData.depthAll]
  | n :: ns => by rw [List.map_cons, PyData.depthAll, depth_ns ns]; simp [PyData.depth]
theorem reads_int {h : Heap} {v : Value} {n : Int} {bs : List Addr} (r : Reads h v (.int n) bs) : ∃ t, v = .int n t := by
  cases r with
  | int _ t => exact ⟨t, rfl⟩
theorem call_maxDef (hc : X.calm = true) (hu : X.A.units + 64 < cLine) : CallRK X (.builtin "max") [Str.ofString "default"] (rMM X.K true) := by
  intro pins s σ H xs zs us ws Q I r rz h
  obtain ⟨a, ns, z, rfl, rfl, hs, q⟩ := h
  obtain ⟨u, rfl, rx⟩ := vals1 r
  obtain rfl : u = Value.ref a := rx
  obtain ⟨w1, rfl, rw1⟩ := vals1 rz
  have hh := I.ok.hd hc
  have h0 : ns.map PyData.int = [] → ∀ h' tk, (∀ b o, s.heap.get? b = some o → h'.get? b = some o) → EP X pins σ Q w1 { s with heap := h', toks := tk } := fun e h' tk k => by
    have : ns = [] := by simpa using e
    subst this
    exact ⟨z, H, I.kept k, rw1, q⟩
  have hy : ∀ (y : PyData) (ys : List PyData) (v : Value) h' tk bs, ns.map PyData.int = y :: ys → Reads h' v (PySem.W.maxD y ys) bs → (∀ b o, s.heap.get? b = some o → h'.get? b = some o) → EP X pins σ Q v { s with heap := h', toks := tk } := fun y ys v h' tk bs e rd k => by
    cases ns with
    | nil => cases e
    | cons n ns =>
      rw [List.map_cons] at e
      injection e with e1 e2
      subst e1 e2
      rw [PySem.W.maxD_ints] at rd
      obtain ⟨t, rfl⟩ := reads_int rd
      exact ⟨.int (foldM true n ns), H, I.kept k, ⟨t, rfl⟩, q⟩
  have hd : X.A.units + 1 + PyData.depthAll (ns.map PyData.int) < cLine := by rw [depth_ns]; omega
  rcases hs with hs | hs
  · obtain ⟨its, rv, p, _⟩ := I.list hs
    exact PySem.W.max_list_default hh p.isList (by simpa using (ints_each rv).2 s.heap) (alike_ns ns) hd h0 fun y ys i v h' tk bs e _ rd k => hy y ys v h' tk bs e rd k
  · obtain ⟨its, rv, p, _⟩ := I.tuple hs
    exact PySem.W.max_tuple_default hh p (by simpa using (ints_each rv).2 s.heap) (alike_ns ns) hd h0 fun y ys i v h' tk bs e _ rd k => hy y ys v h' tk bs e rd k
end
section
variable {X : Cx} {W : WX} {os os1 os2 : Os} {e e2 : Expr} {f f2 : Rho → Out (D × Rho)} {pos p kp : Pos}
def eMM (mx : Bool) (f f2 : Rho → Out (D × Rho)) : Rho → Out (D × Rho) := fun ρ => (f ρ).bind fun p => (f2 p.2).bind fun q => (Out.of (mmDef mx p.1 q.1)).bind fun c => .ok (c, q.2)
theorem ints_at {K : PySem.W.Frag} {S H : Hp} {v : V} {d : D} {ns : List Int} (h : At K S v d) (sub : Same S H) (e : intsIn d = some ns) : ∃ a, v = .ref a ∧ (SqL K H a (ns.map V.int) ∨ SqT K H a (ns.map V.int)) := by
  cases h with
  | lst h z r => exact ⟨_, rfl, .inl (.of (sub _ _ (by rw [← intsOf_map r e]; exact h)))⟩
  | tup h z r => exact ⟨_, rfl, .inr (sqT_mono sub (by rw [← intsOf_map r e]; exact h))⟩
  | _ => cases e
theorem ve_maxDef (hu : X.A.units + 64 < cLine) (ha : VE X W os e f os1 false) (hb : VE X W os1 e2 f2 os2 false) (hm : X.mg "max" = none) (hc : X.calm = true := by rfl)
    (hg : Gl X "max" := by rfl) (he1 : starEach [e] X.env = (false, eval e X.env) :: starEach [] X.env := by rfl)
    (he : backTo pos (starEach [e] X.env) = (false, eval e X.env) :: backTo pos (starEach [] X.env) := by rfl) (hpl : (backTo pos (starEach [e] X.env)).any (·.1) = false := by rfl)
    (hall : (backToKw pos (keywordEach [⟨some "default", e2, kp⟩] X.env)).all (·.1.isSome) = true := by rfl) (hnone : (backToKw pos (keywordEach [⟨some "default", e2, kp⟩] X.env)).any (·.1.isNone) = false := by rfl) (hks : (backToKw pos (keywordEach [⟨some "default", e2, kp⟩] X.env)).filterMap (·.1) = [Str.ofString "default"] := by rfl) :
    VE X W os (.Call (.Name "max" p) [e] [⟨some "default", e2, kp⟩] pos) (eMM true f f2) os2 false := by
  obtain ⟨ta, pa, ka⟩ := ha
  obtain ⟨tb, pb, kb⟩ := hb
  refine ⟨_, pe_callBK (call_maxDef hc hu) hg hm (by decide +kernel) (pa_cons pa pa_nil he1) (pk_cons pb pk_nil) (by decide) (by decide) he hpl hall hnone hks, fun S σ H ρ Q rel P => ?_⟩
  refine ka S σ H ρ _ rel (Post.seq P (fun z => z) (fun c fs p => p) fun d ρ1 v S1 H1 st1 rel1 q1 P1 => ?_)
  have P1 := P1.step RV.ok st1
  refine kb S1 σ H1 ρ1 _ rel1 (Post.seq P1 (fun z => z) (fun c fs p => p) fun d2 ρ2 v2 S2 H2 st2 rel2 q2 P2 => ?_)
  obtain ⟨c, hc, kk⟩ := post_of (P2.step RV.ok st2) rel2
  have hc : mmDef true d d2 = some c := hc
  unfold mmDef at hc
  cases hi : intsIn d with
  | none => rw [hi] at hc; cases hc
  | some ns =>
    rw [hi] at hc
    obtain ⟨a, rfl, hs⟩ := ints_at (At.mono st2.ext.s (show At X.K S1 v d from q1)) rel2.sub hi
    cases ns with
    | nil => cases hc; exact ⟨a, [], v2, rfl, rfl, hs, kk v2 S2 H2 (Ext.refl rel2.sub) q2⟩
    | cons n ns => cases hc; exact ⟨a, n :: ns, v2, rfl, rfl, hs, kk _ S2 H2 (Ext.refl rel2.sub) (.int _)⟩
end
end SW

set_option maxRecDepth 100000
/-! SW21: equations for dicts in mirrors; words and fractions as terms of sums. -/
namespace SW
open PySem PySem.Spec PyProof.Rows L2
theorem ixA_lst {l : List D} {k : D} : ixA (.lst l) k = ixD (.lst l) k := rfl
theorem ixA_tup {l : List D} {k : D} : ixA (.tup l) k = ixD (.tup l) k := rfl
theorem ixA_scr {l : List Int} {k : D} : ixA (.scr l) k = ixD (.scr l) k := rfl
/-! words as keys -/
def wk (w : List Int) : NestedKey := .tup (w.map .num)
theorem keyDs_ints : ∀ w : List Int, keyDs (w.map D.int) = some (w.map NestedKey.num)
  | [] => rfl
  | i :: w => by
    show (match keyD (.int i), keyDs (w.map D.int) with
      | some k, some ks => some (k :: ks)
      | _, _ => none) = _
    rw [keyDs_ints w]
    rfl
theorem keyBs_nums : ∀ w : List Int, keyBs (w.map NestedKey.num) = w.map D.int
  | [] => rfl
  | i :: w => by
    show keyB (.num i) :: keyBs (w.map NestedKey.num) = _
    rw [keyBs_nums w]
    rfl
theorem depth_nums : ∀ w : List Int, NestedKey.depthAll (w.map NestedKey.num) = 0
  | [] => rfl
  | i :: w => by
    show max (NestedKey.depth (.num i)) (NestedKey.depthAll (w.map NestedKey.num)) = 0
    rw [depth_nums w]
    rfl
theorem keyT_word (w : List Int) : keyT (eWord.en w) = some (wk w) := by
  refine keyT_of ?_ ?_
  · show (match keyDs (w.map D.int) with
      | some ks => some (NestedKey.tup ks)
      | none => none) = _
    rw [keyDs_ints]
    rfl
  · show NestedKey.depthAll (w.map NestedKey.num) + 1 ≤ 8
    rw [depth_nums]
    decide
theorem keyB_word (w : List Int) : keyB (wk w) = eWord.en w := keyT_B (keyT_word w)
theorem wk_inj {a b : List Int} (h : wk a = wk b) : a = b := by
  unfold wk at h
  injection h with h
  exact (List.map_inj_right (f := NestedKey.num) fun x y e => by injection e).mp h
section
variable {α : Type}
/-- a typed table -/
def getT (l : List (List Int × α)) (w : List Int) : Option α := (l.find? fun p => decide (p.1 = w)).map (·.2)
def setT (l : List (List Int × α)) (w : List Int) (q : α) : List (List Int × α) := if (getT l w).isSome = true then l.map (fun p => if p.1 = w then (p.1, q) else p) else l ++ [(w, q)]
def delT (l : List (List Int × α)) (w : List Int) : List (List Int × α) := l.filter fun p => decide (p.1 ≠ w)
def dE (f : α → D) (l : List (List Int × α)) : List (NestedKey × D) := l.map fun p => (wk p.1, f p.2)
theorem dec_wk {a b : List Int} : decide (wk a = wk b) = decide (a = b) := by
  by_cases h : a = b
  · subst h; simp
  · rw [decide_eq_false h, decide_eq_false fun z => h (wk_inj z)]
theorem valD_E (f : α → D) (w : List Int) : ∀ l : List (List Int × α), valD (dE f l) (wk w) = (getT l w).map f
  | [] => rfl
  | p :: l => by
    have ih := valD_E f w l
    unfold valD getT dE at *
    rw [List.map_cons, List.find?_cons, List.find?_cons]
    dsimp only
    rw [dec_wk]
    cases decide (p.1 = w)
    · exact ih
    · rfl
theorem putD_E (f : α → D) (w : List Int) (q : α) (l : List (List Int × α)) : putD (dE f l) (wk w) (f q) = dE f (setT l w q) := by
  unfold putD setT
  rw [valD_E, Option.isSome_map]
  split
  · unfold dE
    rw [List.map_map, List.map_map]
    refine List.map_congr_left fun p _ => ?_
    show (if wk p.1 = wk w then (wk p.1, f q) else (wk p.1, f p.2)) = _
    by_cases h : p.1 = w
    · rw [if_pos (by rw [h])]
      show _ = (fun p : List Int × α => (wk p.1, f p.2)) (if p.1 = w then (p.1, q) else p)
      rw [if_pos h]
    · rw [if_neg fun z => h (wk_inj z)]
      show _ = (fun p : List Int × α => (wk p.1, f p.2)) (if p.1 = w then (p.1, q) else p)
      rw [if_neg h]
  · unfold dE
    rw [List.map_append]
    rfl
theorem dropD_E (f : α → D) (w : List Int) (l : List (List Int × α)) : dropD (dE f l) (wk w) = dE f (delT l w) := by
  unfold dropD delT dE
  rw [List.filter_map]
  congr 1
  refine List.filter_congr fun p _ => ?_
  show decide (wk p.1 ≠ wk w) = decide (p.1 ≠ w)
  by_cases h : p.1 = w
  · simp [h]
  · have : ¬ wk p.1 = wk w := fun z => h (wk_inj z)
    simp [h, this]
theorem keys_E (f : α → D) (l : List (List Int × α)) : (dE f l).map (fun p => keyB p.1) = (l.map (·.1)).map eWord.en := by
  unfold dE
  rw [List.map_map, List.map_map]
  exact List.map_congr_left fun p _ => keyB_word p.1
theorem dE_len (f : α → D) (l : List (List Int × α)) : (dE f l).length = l.length := by unfold dE; rw [List.length_map]
end
/-! the order of words: the shorter first, then as tuples -/
def rkLt (a b : List Int) : Bool := if a.length = b.length then ltN a b else decide (a.length < b.length)
def rkLe (a b : List Int) : Bool := !rkLt b a
def rkKey (w : List Int) : PyData := .tuple [.int (w.length : Nat), eWord.py w]
theorem rkKey_lt (a b : List Int) : PySem.W.dataLt (rkKey a) (rkKey b) = rkLt a b := by
  unfold rkKey
  have ha : PySem.W.alike (eWord.py a) (eWord.py b) = true := by
    show PySem.W.alike (.tuple (a.map PyData.int)) (.tuple (b.map PyData.int)) = true
    rw [PySem.W.alike]
    exact alike_ints a b
  rw [PySem.W.dataLt_pair rfl ha]
  show (if (((a.length : Nat) : Int) == ((b.length : Nat) : Int)) = true then (if PyData.eqv (eWord.py a) (eWord.py b) = true then false else PySem.W.dataLt (eWord.py a) (eWord.py b)) else PySem.W.dataLt (.int (a.length : Nat)) (.int (b.length : Nat))) = _
  unfold rkLt
  rw [lt_word, eWord.heq, PySem.W.dataLt_int]
  by_cases h : a.length = b.length
  · rw [if_pos h, if_pos (by rw [h]; simp)]
    by_cases e : a = b
    · subst e
      rw [if_pos (by simp)]
      have self : ∀ l : List Int, ltN l l = false := fun l => by
        induction l with
        | nil => rfl
        | cons x l ih => unfold ltN; rw [if_pos rfl]; exact ih
      exact (self a).symm
    · rw [if_neg (by simp [e])]
  · rw [if_neg h, if_neg (by simp; omega)]
    rw [Bool.eq_iff_iff, decide_eq_true_iff, decide_eq_true_iff]
    omega
end SW

set_option maxRecDepth 100000
/-! SW22: typed sums of words: adding, the linear look at them, the told sum. -/
namespace SW
open PySem PySem.Spec PyProof.Rows L2
abbrev Wd := List Int
abbrev SumT := List (Wd × Rat)
def coef (l : SumT) (w : Wd) : Rat := (getT l w).getD 0
def addT (l : SumT) (w : Wd) (q : Rat) : SumT := if coef l w + q = 0 then delT l w else setT l w (coef l w + q)
def linS (f : Wd → Rat) : SumT → Rat
  | [] => 0
  | p :: l => p.2 * f p.1 + linS f l
structure Good (l : SumT) : Prop where
  nd : (l.map (·.1)).Nodup
  nz : ∀ p ∈ l, p.2 ≠ 0
theorem good_nil : Good [] := ⟨List.nodup_nil, fun p hp => by cases hp⟩
section
variable {l m : SumT} {w v : Wd} {q : Rat} {f : Wd → Rat}
theorem getT_cons {α : Type} (p : Wd × α) (l : List (Wd × α)) (w : Wd) : getT (p :: l) w = if p.1 = w then some p.2 else getT l w := by
  unfold getT
  rw [List.find?_cons]
  by_cases h : p.1 = w
  · rw [decide_eq_true h, if_pos h]; rfl
  · rw [decide_eq_false h, if_neg h]
theorem getT_none {α : Type} {w : Wd} : ∀ {l : List (Wd × α)}, getT l w = none ↔ w ∉ l.map (·.1)
  | [] => by simp [getT]
  | p :: l => by
    rw [getT_cons, List.map_cons, List.mem_cons]
    by_cases h : p.1 = w
    · simp [h]
    · rw [if_neg h, getT_none]
      have : ¬ w = p.1 := fun z => h z.symm
      simp [this]
theorem getT_mem {α : Type} {w : Wd} {q : α} : ∀ {l : List (Wd × α)}, getT l w = some q → (w, q) ∈ l
  | [], e => by simp [getT] at e
  | p :: l, e => by
    rw [getT_cons] at e
    by_cases h : p.1 = w
    · rw [if_pos h] at e
      cases e
      rw [← h]
      exact List.mem_cons_self
    · rw [if_neg h] at e
      exact List.mem_cons_of_mem _ (getT_mem e)
theorem getT_of_mem {α : Type} {w : Wd} {q : α} : ∀ {l : List (Wd × α)}, (l.map (·.1)).Nodup → (w, q) ∈ l → getT l w = some q
  | [], _, h => by cases h
  | p :: l, n, h => by
    rw [List.map_cons, List.nodup_cons] at n
    rw [getT_cons]
    rcases List.mem_cons.mp h with e | h
    · rw [← e, if_pos rfl]
    · have : ¬ p.1 = w := fun z => n.1 (by rw [z]; exact List.mem_map.mpr ⟨_, h, rfl⟩)
      rw [if_neg this]
      exact getT_of_mem n.2 h
theorem coef_cons (p : Wd × Rat) (l : SumT) (w : Wd) : coef (p :: l) w = if p.1 = w then p.2 else coef l w := by
  unfold coef
  rw [getT_cons]
  split <;> rfl
theorem coef_not (h : w ∉ l.map (·.1)) : coef l w = 0 := by
  unfold coef
  rw [getT_none.mpr h]
  rfl
theorem delT_not {α : Type} {l : List (Wd × α)} {w : Wd} (h : w ∉ l.map (·.1)) : delT l w = l := by
  unfold delT
  refine List.filter_eq_self.mpr fun p hp => ?_
  exact decide_eq_true fun z => h (by rw [← z]; exact List.mem_map.mpr ⟨p, hp, rfl⟩)
theorem lin_del : ∀ {l : SumT}, (l.map (·.1)).Nodup → linS f (delT l w) = linS f l - coef l w * f w
  | [], _ => by
    show (0 : Rat) = 0 - coef [] w * f w
    have : coef ([] : SumT) w = 0 := rfl
    rw [this]; grind
  | p :: l, n => by
    rw [List.map_cons, List.nodup_cons] at n
    rw [coef_cons]
    by_cases h : p.1 = w
    · have e : delT (p :: l) w = delT l w := by unfold delT; rw [List.filter_cons_of_neg (by simp [h])]
      rw [e, delT_not (by rw [← h]; exact n.1), if_pos h]
      show linS f l = p.2 * f p.1 + linS f l - p.2 * f w
      rw [h]; grind
    · have e : delT (p :: l) w = p :: delT l w := by unfold delT; rw [List.filter_cons_of_pos (by simp [h])]
      rw [e, if_neg h]
      show p.2 * f p.1 + linS f (delT l w) = p.2 * f p.1 + linS f l - coef l w * f w
      rw [lin_del n.2]; grind
theorem lin_append (a b : SumT) : linS f (a ++ b) = linS f a + linS f b := by
  induction a with
  | nil => show linS f b = 0 + linS f b; grind
  | cons p a ih => show p.2 * f p.1 + linS f (a ++ b) = p.2 * f p.1 + linS f a + linS f b; rw [ih]; grind
theorem map_not : ∀ {l : SumT}, w ∉ l.map (·.1) → (l.map fun p => if p.1 = w then (p.1, q) else p) = l
  | [], _ => rfl
  | p :: l, h => by
    rw [List.map_cons, List.mem_cons] at h
    rw [List.map_cons, map_not fun z => h (.inr z), if_neg fun z => h (.inl z.symm)]
theorem lin_map : ∀ {l : SumT}, (l.map (·.1)).Nodup → w ∈ l.map (·.1) → linS f (l.map fun p => if p.1 = w then (p.1, q) else p) = linS f l + (q - coef l w) * f w
  | [], _, h => by cases h
  | p :: l, n, h => by
    rw [List.map_cons, List.nodup_cons] at n
    rw [List.map_cons, coef_cons]
    by_cases e : p.1 = w
    · rw [if_pos e, if_pos e, map_not (by rw [← e]; exact n.1)]
      show q * f p.1 + linS f l = p.2 * f p.1 + linS f l + (q - p.2) * f w
      rw [e]; grind
    · rw [if_neg e, if_neg e]
      rw [List.map_cons, List.mem_cons] at h
      show p.2 * f p.1 + linS f _ = p.2 * f p.1 + linS f l + (q - coef l w) * f w
      rw [lin_map n.2 (h.resolve_left fun z => e z.symm)]; grind
theorem isSome_mem {α : Type} {l : List (Wd × α)} : (getT l w).isSome = true ↔ w ∈ l.map (·.1) := by
  have := getT_none (l := l) (w := w)
  cases h : getT l w with
  | none => simp [this.mp h]
  | some x =>
    simp only [Option.isSome_some, true_iff]
    exact Classical.byContradiction fun z => by rw [this.mpr z] at h; cases h
theorem lin_set (n : (l.map (·.1)).Nodup) : linS f (setT l w q) = linS f l + (q - coef l w) * f w := by
  unfold setT
  by_cases h : (getT l w).isSome = true
  · rw [if_pos h, lin_map n (isSome_mem.mp h)]
  · rw [if_neg h, lin_append, coef_not fun z => h (isSome_mem.mpr z)]
    show linS f l + (q * f w + 0) = _
    grind
/-- THE look at an addition -/
theorem lin_add (n : (l.map (·.1)).Nodup) : linS f (addT l w q) = linS f l + q * f w := by
  unfold addT
  split
  · rename_i h
    rw [lin_del n]
    have : coef l w = -q := by grind
    rw [this]; grind
  · rw [lin_set n]; grind
theorem keys_set {α : Type} (l : List (Wd × α)) (w : Wd) (q : α) : (setT l w q).map (·.1) = if (getT l w).isSome = true then l.map (·.1) else l.map (·.1) ++ [w] := by
  unfold setT
  split
  · rw [List.map_map]
    refine List.map_congr_left fun p _ => ?_
    show (if p.1 = w then (p.1, q) else p).1 = p.1
    split <;> rfl
  · rw [List.map_append]; rfl
theorem nodup_set {α : Type} {l : List (Wd × α)} {w : Wd} {q : α} (n : (l.map (·.1)).Nodup) : ((setT l w q).map (·.1)).Nodup := by
  rw [keys_set]
  split
  · exact n
  · rename_i h
    refine List.nodup_append.mpr ⟨n, by simp, ?_⟩
    intro a ha b hb
    rw [List.mem_singleton.mp hb]
    exact fun z => h (isSome_mem.mpr (by rw [← z]; exact ha))
theorem nodup_del {α : Type} {l : List (Wd × α)} {w : Wd} (n : (l.map (·.1)).Nodup) : ((delT l w).map (·.1)).Nodup := by
  unfold delT
  exact n.sublist ((List.filter_sublist).map _)
theorem mem_set {α : Type} {l : List (Wd × α)} {w : Wd} {q : α} {p : Wd × α} (h : p ∈ setT l w q) : p = (w, q) ∨ p ∈ l := by
  unfold setT at h
  split at h
  · obtain ⟨x, hx, e⟩ := List.mem_map.mp h
    split at e
    · rename_i hw; subst hw; exact .inl e.symm
    · subst e; exact .inr hx
  · rcases List.mem_append.mp h with h | h
    · exact .inr h
    · exact .inl (List.mem_singleton.mp h)
theorem Good.add (g : Good l) (w : Wd) (q : Rat) : Good (addT l w q) := by
  unfold addT
  split
  · exact ⟨nodup_del g.nd, fun p hp => g.nz p (List.mem_filter.mp hp).1⟩
  · rename_i h
    refine ⟨nodup_set g.nd, fun p hp => ?_⟩
    rcases mem_set hp with e | hp
    · rw [e]; exact h
    · exact g.nz p hp
theorem set_len {α : Type} (l : List (Wd × α)) (w : Wd) (q : α) : (setT l w q).length ≤ l.length + 1 := by
  unfold setT
  split
  · rw [List.length_map]; omega
  · rw [List.length_append]; simp
theorem add_len (l : SumT) (w : Wd) (q : Rat) : (addT l w q).length ≤ l.length + 1 := by
  unfold addT
  split
  · have : (delT l w).length ≤ l.length := List.length_filter_le _ _
    omega
  · exact set_len _ _ _
/-- one word's look -/
def ind (w : Wd) : Wd → Rat := fun v => if v = w then 1 else 0
theorem lin_ind : ∀ {l : SumT}, (l.map (·.1)).Nodup → linS (ind w) l = coef l w
  | [], _ => rfl
  | p :: l, n => by
    rw [List.map_cons, List.nodup_cons] at n
    rw [coef_cons]
    show p.2 * ind w p.1 + linS (ind w) l = _
    rw [lin_ind n.2]
    unfold ind
    by_cases h : p.1 = w
    · rw [if_pos h, if_pos h, coef_not (by rw [← h]; exact n.1)]; grind
    · rw [if_neg h, if_neg h]; grind
theorem coef_add (n : Good l) : coef (addT l w q) v = coef l v + (if w = v then q else 0) := by
  rw [← lin_ind (n.add w q).nd, lin_add n.nd, lin_ind n.nd]
  unfold ind
  split <;> grind
theorem coef_mem (g : Good l) : w ∈ l.map (·.1) ↔ coef l w ≠ 0 := by
  constructor
  · intro h
    obtain ⟨p, hp, e⟩ := List.mem_map.mp h
    have : getT l w = some p.2 := getT_of_mem g.nd (by rw [← e]; exact hp)
    unfold coef
    rw [this]
    exact g.nz p hp
  · intro h
    exact Classical.byContradiction fun z => h (coef_not z)
theorem lin_perm (h : l.Perm m) : linS f l = linS f m := by
  induction h with
  | nil => rfl
  | cons p _ ih => show p.2 * f p.1 + linS f _ = p.2 * f p.1 + linS f _; rw [ih]
  | swap p q l => show q.2 * f q.1 + (p.2 * f p.1 + linS f l) = p.2 * f p.1 + (q.2 * f q.1 + linS f l); grind
  | trans _ _ a b => rw [a, b]
theorem lin_congr {g : Wd → Rat} : ∀ {l : SumT}, (∀ p ∈ l, f p.1 = g p.1) → linS f l = linS g l
  | [], _ => rfl
  | p :: l, h => by
    show p.2 * f p.1 + linS f l = p.2 * g p.1 + linS g l
    rw [h p List.mem_cons_self, lin_congr fun q hq => h q (List.mem_cons_of_mem _ hq)]
theorem lin_scale (c : Rat) : ∀ l : SumT, linS (fun v => c * f v) l = c * linS f l
  | [] => by show (0 : Rat) = c * 0; grind
  | p :: l => by
    show p.2 * (c * f p.1) + linS (fun v => c * f v) l = c * (p.2 * f p.1 + linS f l)
    rw [lin_scale c l]; grind
theorem lin_plus {g : Wd → Rat} : ∀ l : SumT, linS (fun v => f v + g v) l = linS f l + linS g l
  | [] => by show (0 : Rat) = 0 + 0; grind
  | p :: l => by
    show p.2 * (f p.1 + g p.1) + linS (fun v => f v + g v) l = p.2 * f p.1 + linS f l + (p.2 * g p.1 + linS g l)
    rw [lin_plus l]; grind
end

/-! ### the order of words -/
theorem ltN_self : ∀ l : Wd, ltN l l = false
  | [] => rfl
  | x :: l => by unfold ltN; rw [if_pos rfl]; exact ltN_self l
theorem ltN_asymm : ∀ a b : Wd, ltN a b = true → ltN b a = false
  | [], [], h => by cases h
  | [], _ :: _, _ => rfl
  | _ :: _, [], h => by cases h
  | x :: a, y :: b, h => by
    unfold ltN at h ⊢
    by_cases e : x = y
    · rw [if_pos e] at h
      rw [if_pos e.symm]
      exact ltN_asymm a b h
    · rw [if_neg e] at h
      rw [if_neg fun z => e z.symm]
      have := of_decide_eq_true h
      exact decide_eq_false (by omega)
theorem ltN_trans : ∀ a b c : Wd, ltN a b = true → ltN b c = true → ltN a c = true
  | a, [], _, h, _ => by
    have e : ltN a [] = false := by cases a <;> rfl
    rw [e] at h; cases h
  | _, _ :: _, [], _, h => by cases h
  | [], _ :: _, _ :: _, _, _ => rfl
  | x :: a, y :: b, z :: c, h1, h2 => by
    unfold ltN at h1 h2 ⊢
    by_cases e1 : x = y
    · rw [if_pos e1] at h1
      by_cases e2 : y = z
      · rw [if_pos e2] at h2
        rw [if_pos (e1.trans e2)]
        exact ltN_trans a b c h1 h2
      · rw [if_neg e2] at h2
        rw [if_neg (by rw [e1]; exact e2), e1]
        exact h2
    · rw [if_neg e1] at h1
      have q1 := of_decide_eq_true h1
      by_cases e2 : y = z
      · rw [if_neg (by rw [← e2]; exact e1), ← e2]; exact h1
      · rw [if_neg e2] at h2
        have q2 := of_decide_eq_true h2
        rw [if_neg (by omega)]
        exact decide_eq_true (by omega)
theorem ltN_total : ∀ a b : Wd, ltN a b = false → ltN b a = false → a = b
  | [], [], _, _ => rfl
  | [], _ :: _, h, _ => by cases h
  | _ :: _, [], _, h => by cases h
  | x :: a, y :: b, h1, h2 => by
    unfold ltN at h1 h2
    by_cases e : x = y
    · rw [if_pos e] at h1
      rw [if_pos e.symm] at h2
      rw [e, ltN_total a b h1 h2]
    · rw [if_neg e] at h1
      rw [if_neg fun z => e z.symm] at h2
      have := of_decide_eq_false h1
      have := of_decide_eq_false h2
      omega
theorem rkLt_self (a : Wd) : rkLt a a = false := by unfold rkLt; rw [if_pos rfl]; exact ltN_self a
theorem rkLt_asymm {a b : Wd} (h : rkLt a b = true) : rkLt b a = false := by
  unfold rkLt at h ⊢
  by_cases e : a.length = b.length
  · rw [if_pos e] at h
    rw [if_pos e.symm]
    exact ltN_asymm a b h
  · rw [if_neg e] at h
    rw [if_neg fun z => e z.symm]
    have := of_decide_eq_true h
    exact decide_eq_false (by omega)
theorem rkLt_trans {a b c : Wd} (h1 : rkLt a b = true) (h2 : rkLt b c = true) : rkLt a c = true := by
  unfold rkLt at h1 h2 ⊢
  by_cases e1 : a.length = b.length
  · rw [if_pos e1] at h1
    by_cases e2 : b.length = c.length
    · rw [if_pos e2] at h2
      rw [if_pos (e1.trans e2)]
      exact ltN_trans a b c h1 h2
    · rw [if_neg e2] at h2
      have q2 := of_decide_eq_true h2
      rw [if_neg (by omega)]
      exact decide_eq_true (by omega)
  · rw [if_neg e1] at h1
    have q1 := of_decide_eq_true h1
    by_cases e2 : b.length = c.length
    · rw [if_neg (by omega)]
      exact decide_eq_true (by omega)
    · rw [if_neg e2] at h2
      have q2 := of_decide_eq_true h2
      rw [if_neg (by omega)]
      exact decide_eq_true (by omega)
theorem rkLt_total {a b : Wd} (h1 : rkLt a b = false) (h2 : rkLt b a = false) : a = b := by
  unfold rkLt at h1 h2
  by_cases e : a.length = b.length
  · rw [if_pos e] at h1
    rw [if_pos e.symm] at h2
    exact ltN_total a b h1 h2
  · rw [if_neg e] at h1
    rw [if_neg fun z => e z.symm] at h2
    have := of_decide_eq_false h1
    have := of_decide_eq_false h2
    omega
theorem rkLe_trans (a b c : Wd) (h1 : rkLe a b = true) (h2 : rkLe b c = true) : rkLe a c = true := by
  unfold rkLe at h1 h2 ⊢
  have e1 : rkLt b a = false := by simpa using h1
  have e2 : rkLt c b = false := by simpa using h2
  cases h : rkLt c a with
  | false => rfl
  | true =>
    exfalso
    cases hab : rkLt a b with
    | true => rw [rkLt_trans h hab] at e2; cases e2
    | false =>
      have := rkLt_total hab e1
      subst this
      rw [h] at e2; cases e2
theorem rkLe_total (a b : Wd) : (rkLe a b || rkLe b a) = true := by
  unfold rkLe
  cases h : rkLt b a with
  | false => simp
  | true => rw [rkLt_asymm h]; simp
/-- sorted without doubles: each less than the next -/
def Rising (l : List Wd) : Prop := l.Pairwise fun a b => rkLt a b = true
theorem Rising.nodup {l : List Wd} (h : Rising l) : l.Nodup := h.imp fun {a b} q z => by subst z; rw [rkLt_self] at q; cases q
theorem rising_sort {l : List Wd} (n : l.Nodup) : Rising (l.mergeSort rkLe) := by
  have p := List.pairwise_mergeSort (le := rkLe) rkLe_trans rkLe_total l
  have n' : (l.mergeSort rkLe).Nodup := (List.mergeSort_perm l rkLe).nodup_iff.mpr n
  refine (List.Pairwise.and p n').imp fun {a b} q => ?_
  obtain ⟨h, ne⟩ := q
  unfold rkLe at h
  have h : rkLt b a = false := by simpa using h
  cases e : rkLt a b with
  | true => rfl
  | false => exact (ne (rkLt_total e h)).elim
/-- rising lists of the same words are one -/
theorem rising_eq : ∀ {a b : List Wd}, Rising a → Rising b → (∀ w, w ∈ a ↔ w ∈ b) → a = b
  | [], [], _, _, _ => rfl
  | [], y :: b, _, _, h => by have := (h y).mpr List.mem_cons_self; cases this
  | x :: a, [], _, _, h => by have := (h x).mp List.mem_cons_self; cases this
  | x :: a, y :: b, ha, hb, h => by
    have ha' := List.pairwise_cons.mp ha
    have hb' := List.pairwise_cons.mp hb
    have e : x = y := by
      rcases List.mem_cons.mp ((h x).mp List.mem_cons_self) with e | hx
      · exact e
      · rcases List.mem_cons.mp ((h y).mpr List.mem_cons_self) with e | hy
        · exact e.symm
        · have q1 := hb'.1 x hx
          have q2 := ha'.1 y hy
          rw [rkLt_asymm q1] at q2; cases q2
    subst e
    rw [rising_eq ha'.2 hb'.2 fun w => ?_]
    constructor
    · intro hw
      rcases List.mem_cons.mp ((h w).mp (List.mem_cons_of_mem _ hw)) with e | hw2
      · subst e; have := ha'.1 w hw; rw [rkLt_self] at this; cases this
      · exact hw2
    · intro hw
      rcases List.mem_cons.mp ((h w).mpr (List.mem_cons_of_mem _ hw)) with e | hw2
      · subst e; have := hb'.1 w hw; rw [rkLt_self] at this; cases this
      · exact hw2
/-- the told sum of a table -/
def toldT (l : SumT) : SumT := ((l.map (·.1)).mergeSort rkLe).map fun w => (w, coef l w)
theorem told_keys (l : SumT) : (toldT l).map (·.1) = (l.map (·.1)).mergeSort rkLe := by
  unfold toldT
  rw [List.map_map]
  exact List.map_id _
theorem told_perm {l : SumT} (n : (l.map (·.1)).Nodup) : (toldT l).Perm l := by
  unfold toldT
  have p := (List.mergeSort_perm (l.map (·.1)) rkLe).map fun w => (w, coef l w)
  rw [List.map_map] at p
  refine p.trans ?_
  have e : l.map ((fun w => (w, coef l w)) ∘ fun p => p.1) = l := by
    conv => rhs; rw [← List.map_id l]
    refine List.map_congr_left fun p hp => ?_
    show (p.1, coef l p.1) = p
    unfold coef
    rw [getT_of_mem n (q := p.2) hp]
    rfl
  rw [e]
/-- a sum as it is told -/
structure Sm (l : SumT) : Prop where
  up : Rising (l.map (·.1))
  nz : ∀ p ∈ l, p.2 ≠ 0
theorem Sm.good {l : SumT} (h : Sm l) : Good l := ⟨h.up.nodup, h.nz⟩
theorem Good.told {l : SumT} (g : Good l) : Sm (toldT l) := ⟨by rw [told_keys]; exact rising_sort g.nd, fun p hp => g.nz p ((told_perm g.nd).mem_iff.mp hp)⟩
theorem lin_told {l : SumT} {f : Wd → Rat} (g : Good l) : linS f (toldT l) = linS f l := lin_perm (told_perm g.nd)
theorem coef_told {l : SumT} (g : Good l) (w : Wd) : coef (toldT l) w = coef l w := by rw [← lin_ind g.told.good.nd, lin_told g, lin_ind g.nd]
/-- sums that look alike are one -/
theorem sm_eq {a b : SumT} (ha : Sm a) (hb : Sm b) (h : ∀ f, linS f a = linS f b) : a = b := by
  have hc : ∀ w, coef a w = coef b w := fun w => by rw [← lin_ind ha.good.nd, ← lin_ind hb.good.nd, h]
  have hk : a.map (·.1) = b.map (·.1) := rising_eq ha.up hb.up fun w => by rw [coef_mem ha.good, coef_mem hb.good, hc]
  have key : ∀ {l : SumT}, Good l → l = (l.map (·.1)).map fun w => (w, coef l w) := fun {l} g => by
    rw [List.map_map]
    conv => lhs; rw [← List.map_id l]
    refine List.map_congr_left fun p hp => ?_
    show p = (p.1, coef l p.1)
    unfold coef
    rw [getT_of_mem g.nd (q := p.2) hp]
    rfl
  rw [key ha.good, key hb.good, hk]
  exact List.map_congr_left fun w _ => by rw [hc]
theorem told_eq {a b : SumT} (ha : Good a) (hb : Good b) (h : ∀ f, linS f a = linS f b) : toldT a = toldT b := sm_eq ha.told hb.told fun f => by rw [lin_told ha, lin_told hb, h]
theorem told_sm {a : SumT} (h : Sm a) : toldT a = a := sm_eq h.good.told h fun f => lin_told h.good
end SW

set_option maxRecDepth 100000
/-! SW23: more of loops. -/
namespace SW
open PySem PySem.Spec PyProof.Rows L2
theorem all_find {α : Type} {c : α → Bool} : ∀ {l : List α}, l.find? c = none → l.all (fun i => !c i) = true
  | [], _ => rfl
  | a :: l, h => by
    rw [List.find?_eq_none] at h
    rw [List.all_eq_true]
    intro x hx
    have := h x hx
    simpa using this
theorem any_find {α : Type} {c : α → Bool} {l : List α} {i : α} (h : l.find? c = some i) : l.all (fun i => !c i) = false := by
  have h1 := List.find?_some h
  have h2 := List.mem_of_find?_eq_some h
  rw [Bool.eq_false_iff]
  intro z
  rw [List.all_eq_true] at z
  have := z i h2
  rw [h1] at this
  cases this
/-- a loop that turns a state; what is left of the list is known -/
theorem forL_foldr {ι σ : Type} {b : D → Rho → Option Rho} {g : Rho → Out Fl} {f : ι → D} {St : List ι → σ → Rho → Prop} {step : σ → ι → σ} : ∀ (l : List ι) (s : σ) (ρ : Rho), St l s ρ → (∀ i l s ρ, St (i :: l) s ρ → ∃ ρ1 ρ2, b (f i) ρ = some ρ1 ∧ g ρ1 = .ok (.nx ρ2) ∧ St l (step s i) ρ2) →
    ∃ ρ', forL b g (l.map f) ρ = .ok (.nx ρ') ∧ St [] (l.foldl step s) ρ'
  | [], s, ρ, h, _ => ⟨ρ, rfl, h⟩
  | i :: l, s, ρ, h, st => by
    obtain ⟨ρ1, ρ2, e1, e2, h2⟩ := st i l s ρ h
    obtain ⟨ρ', e3, h3⟩ := forL_foldr l (step s i) ρ2 h2 st
    refine ⟨ρ', ?_, h3⟩
    rw [List.map_cons]
    unfold forL
    rw [e1]
    dsimp only
    rw [e2, bind_ok]
    exact e3
end SW

set_option maxRecDepth 100000
/-! SW24: sorted(e) without a key, x.pop(i). -/
namespace SW
open PySem PySem.Spec PyProof.Rows L2
open PySem.W (EachIs dataLe AllAlike Sortable alike)

/-! ### tuples among which some are empty -/
section
open PySem.SeqAt PySem.W
variable {prog : Program} {w : World} {A : Around} {E : Value → Shared → Prop} {s : Shared}
theorem call_tuple_lt {Q : Value → Shared → Prop} {l b : Addr} {items items2 : Array Value} {e r : Nat → Bool} (hl : s.heap.IsTuple l items) (hb : s.heap.IsTuple b items2)
    (he : ∀ j (h1 : j < items.size) (h2 : j < items2.size), EqAt A.in1 s items[j] items2[j] (e j)) (hr : ∀ j (h1 : j < items.size) (h2 : j < items2.size), e j = false → RcLt A.in1 s items[j] items2[j] (r j))
    (h : Q (.bool (firstLt e r (decide (items.size < items2.size)) (List.range (min items.size items2.size)))) s) : wpAny (model prog w) A (call (.builtin "tuple.__lt__") [.ref l, .ref b]) Q E s := by
  obtain ⟨⟨cls, dd, data, sl⟩, ho, hc, n, hd⟩ := id hl
  obtain ⟨⟨cls2, dd2, data2, sl2⟩, ho2, hc2, n2, hd2⟩ := id hb
  simp only at hc hd hc2 hd2
  subst hc hd hc2 hd2
  exact call_meets F.slot_tuple_lt ⟨_, ho, rfl⟩ F.entry_tuple_lt (F.args_tuple_lt_2 _ _) (tuple_ltAt l b items items2 n n2 dd dd2 sl sl2 e r) ⟨ho, ho2, he, hr, h⟩
theorem oneLt_tup {xs ys : List PyData} {a b : Value} {as bs : List Addr} {Q : Bool → Shared → Prop} (ra : Reads s.heap a (.tuple xs) as) (rb : Reads s.heap b (.tuple ys) bs) (h : alike (.tuple xs) (.tuple ys) = true)
    (hu : A.units + min (PyData.tuple xs).depth (PyData.tuple ys).depth < cLine) (hq : Q (dataLt (.tuple xs) (.tuple ys)) s) : wpAny (model prog w) A (oneLt' true a b) Q E s := by
  have hal : alikeAll xs ys = true := by simpa [alike] using h
  cases ra with
  | @tuple l o vs n _ as₁ h1 h2 h3 h4 =>
    cases rb with
    | @tuple l' o' vs' n' _ bs₁ k1 k2 k3 k4 =>
      have n1 : vs.size = xs.length := by simpa using ReadsAll.length _ _ _ h4
      have n2 : vs'.size = ys.length := by simpa using ReadsAll.length _ _ _ k4
      rw [dataLt_tuple, ← firstLt_toks xs ys hal, ← n1, ← n2] at hq
      rw [oneLt'_eq]
      simp only [if_true]
      refine wpAny_bind (wpAny_cRoomFor (room_here hu) ?_)
      refine wpAny_bind (wpAny_callSpecialIfBound?_slot (T := "tuple") ⟨_, h1, h2⟩ F.slot_tuple_lt (call_tuple_lt (e := pairEq xs ys) (r := fun j => dataLt (xs.getD j .none) (ys.getD j .none)) ⟨_, h1, h2, _, h3⟩ ⟨_, k1, k2, _, k3⟩ (fun j j1 j2 => ?_) (fun j j1 j2 hj => ?_) ?_))
      · have := eqAt_alikeAll xs ys A.in1 s vs.toList vs'.toList _ _ h4 k4 hal (room_in hu) j (by simpa using j1) (by simpa using j2)
        simpa using this
      · have := rcLt_alikeAll xs ys A.in1 s vs.toList vs'.toList _ _ h4 k4 hal (room_in hu) j (by simpa using j1) (by simpa using j2) hj
        simpa using this
      · exact wpAny_truthy_bool hq
variable {M : Model}
theorem mapM_at {α β : Type} {f : α → Sem β} {g : α → β} : ∀ (l : List α) {Q : List β → Shared → Prop}, (∀ v ∈ l, ∀ (Q' : β → Shared → Prop), Q' (g v) s → wpAny M A (f v) Q' E s) → Q (l.map g) s → wpAny M A (l.mapM f) Q E s
  | [], _, _, h => by rw [List.mapM_nil]; exact wpAny_pure h
  | x :: l, Q, hf, h => by
    rw [List.mapM_cons]
    exact wpAny_bind (hf x (.head _) _ (wpAny_bind (mapM_at l (Q := fun bs s' => wpAny M A (pure (g x :: bs)) Q E s') (fun v hv => hf v (.tail _ hv)) (wpAny_pure h))))
/-- the first item of a tuple on the heap -/
def firstAt (h : Heap) : Value → Option Value
  | .ref a => match h.get? a with
    | some o => (match o.data with | .seq xs _ => xs[0]? | _ => none)
    | none => none
  | _ => none
theorem kind_mixed {vs : List Value} {ds : List PyData} {Q : SortKind → Shared → Prop} (e : EachIs (fun v d => ∃ as, Reads s.heap v d as) vs ds) (ht : ∀ d, d ∈ ds → ∃ xs, d = .tuple xs) (h2 : 2 ≤ vs.length) (hne : ¬ (vs.toArray.map (firstAt s.heap)).all (·.isSome) = true)
    (h : Q (if ((vs.toArray.map (firstAt s.heap))[0]?.bind id).isSome = true then general' else oneType') s) : wpAny M A (keyKind' vs.toArray) Q E s := by
  have hv : ∀ v ∈ vs, ∃ a o xs n, v = .ref a ∧ s.heap.get? a = some o ∧ o.cls = .type "tuple" ∧ o.data = .seq xs n := fun v hv => by
    obtain ⟨d, hd, as, r⟩ := e.left v hv
    obtain ⟨xs, rfl⟩ := ht d hd
    cases r with
    | @tuple a o vs n _ _ h1 h2 h3 h4 => exact ⟨a, o, vs, n, rfl, h1, h2, h3⟩
  rw [keyKind'_eq, List.mapM_toArray, map_eq_pure_bind]
  refine wpAny_bind (wpAny_bind (mapM_at (g := firstAt s.heap) _ (fun v hv' Q' hq => ?_) (wpAny_pure ?_)))
  · obtain ⟨a, o, xs, n, rfl, h1, h2, h3⟩ := hv v hv'
    rw [kas_first_eq]
    refine wpAny_bind (Looks.here (show Looks M s.heap (typeOf (.ref a)) o.cls from (Looks.ld h1).andThen .now) ?_)
    rw [h2, if_neg (by first | decide | simp)]
    refine wpAny_bind (listItems_at h1 h3 (wpAny_pure ?_))
    have : firstAt s.heap (.ref a) = xs[0]? := by
      unfold firstAt
      dsimp only
      rw [h1]
      dsimp only
      rw [h3]
    rw [← this]
    exact hq
  · have em : (List.map (firstAt s.heap) vs).toArray = vs.toArray.map (firstAt s.heap) := by simp
    rw [em, if_neg hne]
    split
    · rename_i hg
      rw [if_pos hg] at h
      exact wpAny_pure h
    · rename_i hg
      rw [if_neg hg] at h
      rw [oneTypeOnly'_eq, List.mapM_toArray, map_eq_pure_bind]
      refine wpAny_bind (wpAny_bind (wpAny_bind (kas_mapM (r := Value.type "tuple") _ (fun v hv' Q' hq => ?_) (wpAny_pure ?_))))
      · obtain ⟨a, o, xs, n, rfl, h1, h2, h3⟩ := hv v hv'
        refine Looks.here (show Looks M s.heap (typeOf (.ref a)) o.cls from (Looks.ld h1).andThen .now) ?_
        rw [h2]; exact hq
      · have hall : ((List.map (fun _ => Value.type "tuple") vs).toArray.all fun x => x == Value.type "tuple") = true := by
          simp only [List.all_toArray, List.all_map, List.all_eq_true]
          intro _ _
          rfl
        have h0 : (List.map (fun _ => Value.type "tuple") vs).toArray[0]? = some (Value.type "tuple") := by
          match vs, h2 with
          | _ :: _, _ => simp
        rw [h0]
        simp only [hall, if_true]
        exact wpAny_pure (wpAny_pure h)
theorem each_right {α β : Type} {R : α → β → Prop} : ∀ {as : List α} {bs : List β}, EachIs R as bs → ∀ b ∈ bs, ∃ a ∈ as, R a b
  | _, _, .nil, _, h => by cases h
  | _, _, .cons h t, b, hb => by
    rcases List.mem_cons.mp hb with rfl | hb
    · exact ⟨_, List.mem_cons_self, h⟩
    · obtain ⟨a, ha, q⟩ := each_right t b hb
      exact ⟨a, List.mem_cons_of_mem _ ha, q⟩
theorem SortsAt.tups {vs : List Value} {ds : List PyData} (e : EachIs (fun v d => ∃ as, Reads s.heap v d as) vs ds) (hal : AllAlike ds) (ht : ∀ d, d ∈ ds → ∃ xs, d = .tuple xs) (hu : ∀ d, d ∈ ds → A.units + d.depth < cLine) : SortsAt prog w A s (dataKind s.heap ds) vs := by
  by_cases hne : (vs.toArray.map (firstAt s.heap)).all (·.isSome) = true
  · refine SortsAt.data e hal (.inl fun d hd => ?_) hu
    obtain ⟨xs, rfl⟩ := ht d hd
    obtain ⟨v, hv, as, r⟩ := each_right e _ hd
    cases r with
    | @tuple a o its n _ _ h1 h2 h3 h4 =>
      have q : (firstAt s.heap (.ref a)).isSome = true := by
        simp only [Array.all_map, List.all_toArray] at hne
        exact List.all_eq_true.mp hne _ hv
      have : firstAt s.heap (.ref a) = its[0]? := by
        unfold firstAt
        dsimp only
        rw [h1]
        dsimp only
        rw [h3]
      rw [this] at q
      have n1 : its.size = xs.length := by simpa using ReadsAll.length _ _ _ h4
      cases xs with
      | nil => rw [Array.getElem?_eq_none (by rw [n1]; exact Nat.le_refl _)] at q; cases q
      | cons x r => exact ⟨x, r, rfl⟩
  · have room : ∀ {d d' : PyData}, d ∈ ds → A.units + min d.depth d'.depth < cLine := fun {d d'} hd => Nat.lt_of_le_of_lt (Nat.add_le_add_left (Nat.min_le_left _ _) _) (hu d hd)
    refine ⟨fun v hv => ?_, _, ?_, fun h2 E Q hq => kind_mixed e ht h2 hne hq⟩
    · obtain ⟨d, hd, as, r⟩ := e.left v hv
      exact ⟨_, dataKind_some hal hd r⟩
    · intro E x y a b Q ha hb hq
      obtain ⟨d, as, hd, ra, rfl⟩ := dataKind_inv ha
      obtain ⟨d', as', hd', rb, rfl⟩ := dataKind_inv hb
      split
      · show wpAny _ _ (oneLt' false x y) _ _ _
        refine oneLt_alike (fun z => by cases z) ra rb (hal d hd d' hd') (fun z => ?_) (room hd) hq
        obtain ⟨xs, rfl⟩ := ht d hd
        cases z
      · rw [keyLt'_oneType]
        obtain ⟨xs, rfl⟩ := ht d hd
        obtain ⟨ys, rfl⟩ := ht d' hd'
        exact oneLt_tup ra rb (hal _ hd _ hd') (room hd) hq
end
def sortableC (ps : List PyData) : Bool := sortableB ps || ps.all fun p => match p with | .tuple _ => true | _ => false
def keysOkC (ps : List PyData) : Bool := ps.all (fun p => ps.all fun q => alike p q) && sortableC ps && ps.all fun p => decide (p.depth ≤ 40)
theorem sortsC {prog : Program} {w : World} {A : Around} {s : Shared} {vs : List Value} {ps : List PyData} (h : keysOkC ps = true) (e : EachIs (fun v d => ∃ as, Reads s.heap v d as) vs ps) (hu : A.units + 40 < cLine) : AllAlike ps ∧ PySem.W.SortsAt prog w A s (PySem.W.dataKind s.heap ps) vs := by
  unfold keysOkC at h
  rw [Bool.and_eq_true, Bool.and_eq_true] at h
  obtain ⟨⟨h1, h2⟩, h3⟩ := h
  have hal : AllAlike ps := fun d hd d' hd' => List.all_eq_true.mp (List.all_eq_true.mp h1 d hd) d' hd'
  have hdp : ∀ d ∈ ps, A.units + d.depth < cLine := fun d hd => by have := of_decide_eq_true (List.all_eq_true.mp h3 d hd); omega
  refine ⟨hal, ?_⟩
  unfold sortableC at h2
  rcases Bool.or_eq_true_iff.mp h2 with h | h
  · have hk : keysOk ps = true := by unfold keysOk; rw [h1, h, h3]; rfl
    exact PySem.W.SortsAt.data e hal (keysOk_iff hk).2.1 hdp
  · refine SortsAt.tups e hal (fun d hd => ?_) hdp
    have q := List.all_eq_true.mp h d hd
    split at q
    · exact ⟨_, rfl⟩
    · cases q
def pyF (d : D) : PyData := d.py.getD .none
def sortD (ds : List D) : Option (List D) := if (ds.all fun d => d.py.isSome) = true ∧ keysOkC (ds.map pyF) = true then some (ds.mergeSort (dataLe false pyF)) else none
def rSortD (K : PySem.W.Frag) : List V → Hp → VK → Prop := fun vs H Q => ∃ x S d ds out, vs = [x] ∧ Same S H ∧ At K S x d ∧ itemsA d = some ds ∧ sortD ds = some out ∧
  ∀ p ys, H p = none → AtL K S ys out → Q (.ref p) (upd H p (.lst ys))
section
variable {X : Cx}
theorem py_all : ∀ {ds : List D}, (ds.all fun d => d.py.isSome) = true → ds.map D.py = (ds.map pyF).map some
  | [], _ => rfl
  | d :: ds, h => by
    rw [List.all_cons, Bool.and_eq_true] at h
    rw [List.map_cons, List.map_cons, List.map_cons, py_all h.2]
    congr 1
    unfold pyF
    cases e : d.py with
    | none => rw [e] at h; cases h.1
    | some p => rfl
theorem call_sortD (hcalm : X.calm = true) (hu : X.A.units + 64 < cLine) : CallR X (.builtin "sorted") (rSortD X.K) := by
  intro pins s σ H xs us Q I r h
  obtain ⟨x, S, d, ds, out, rfl, sub, hat, hit, hso, q⟩ := h
  obtain ⟨u, rfl, rx⟩ := vals1 r
  unfold sortD at hso
  split at hso
  · rename_i hc
    cases hso
    obtain ⟨hpy, hok⟩ := hc
    obtain ⟨vs, hc, hvs, hz⟩ := col_at hat sub hit
    refine PySem.Calls.call_function_entry kind_sorted plain_sorted entry_sorted (args_sorted1 _) ?_
    unfold Builtin.«sorted»
    refine wpAny_bind (m := checkCount "sorted" 1 1 _) (wpAny_pure (?_))
    refine wpAny_bind (wpAny_mono (col_run (A := X.A.in1) (E := X.xe) I (I.ok.hd hcalm) hc rx) (fun its s1 q1 => ?_) fun _ _ z => z)
    obtain ⟨I1, rv, zl⟩ := q1
    refine wpAny_bind (wpAny_newList ?_ zl)
    have nw : (s1.heap.push (seqObj "list" its.toArray 0)).get? s1.heap.objs.size = some (seqObj "list" its.toArray 0) := Heap.get?_push_size _ rfl
    have hn := I1.hok.fresh (Nat.le_refl s1.heap.objs.size)
    have fp := I1.fpOk (Nat.le_refl s1.heap.objs.size) hn
    have each : EachIs (fun v p => ∃ as, Reads s1.heap v p as) its (ds.map pyF) := each_of_at I1 sub hvs rv (py_all hpy)
    have old : ∀ b o, s1.heap.get? b = some o → (PySem.W.sortingHeap (s1.heap.push (seqObj "list" its.toArray 0)) s1.heap.objs.size its).get? b = some o := fun b o e => PySem.W.sortingHeap_old (Nat.ne_of_lt (Heap.lt_size e)) (Heap.get?_push_of_some _ e)
    have each2 : EachIs (fun v p => ∃ as, Reads (PySem.W.sortingHeap (s1.heap.push (seqObj "list" its.toArray 0)) s1.heap.objs.size its) v p as) its (ds.map pyF) := each.mono fun _ _ ⟨as, r⟩ => ⟨as, PyProof.Rows.Reads.keeps old r⟩
    obtain ⟨hal, hst⟩ := sortsC (prog := X.prog) (w := X.w) (A := X.A.in1.in1) (s := { s1 with heap := PySem.W.sortingHeap (s1.heap.push (seqObj "list" its.toArray 0)) s1.heap.objs.size its }) hok each2 (by show X.A.units + 1 + 1 + 40 < cLine; omega)
    refine wpAny_bind (wpAny_holding (wpAny_call_entry slot_list_sort ⟨_, nw, rfl⟩ entry_list_sort (PySem.W.list_sort_vals (κ := PySem.W.dataKind (PySem.W.sortingHeap (s1.heap.push (seqObj "list" its.toArray 0)) s1.heap.objs.size its) (ds.map pyF)) nw
      hst zl ?_) (args_list_sort _)))
    refine ⟨_, rfl, wpAny_pure ?_⟩
    have outE : EachIs (VAt X.K S) (PySem.W.sortVals (PySem.W.dataKind (PySem.W.sortingHeap (s1.heap.push (seqObj "list" its.toArray 0)) s1.heap.objs.size its) (ds.map pyF)) false its its) (ds.mergeSort (dataLe false pyF)) :=
      PySem.W.sortVals_each (κ := PySem.W.dataKind _ (ds.map pyF)) (fun b => PySem.W.keyToks (pyF b)) (each_at hvs rv) (PySem.W.each_of_map pyF (PySem.W.each_keys hal each2))
    obtain ⟨ys, ry, ay⟩ := at_each outE
    obtain ⟨c', na3⟩ := PyProof.Rows.sortedHeap_at (vs := its) (out := (PySem.W.sortVals (PySem.W.dataKind (PySem.W.sortingHeap (s1.heap.push (seqObj "list" its.toArray 0)) s1.heap.objs.size its) (ds.map pyF)) false its its).toArray) nw
    have I2 : Inv X pins σ H { s1 with heap := PyProof.Rows.sortedHeap (s1.heap.push (seqObj "list" its.toArray 0)) s1.heap.objs.size its (PySem.W.sortVals (PySem.W.dataKind (PySem.W.sortingHeap (s1.heap.push (seqObj "list" its.toArray 0)) s1.heap.objs.size its) (ds.map pyF)) false its its).toArray } :=
      I1.kept (t' := s1.toks) fun b o e => by
        have hlt := Heap.lt_size e
        rw [PyProof.Rows.sortedHeap_old (Nat.ne_of_lt hlt) (by rw [Heap.size_push]; exact Nat.lt_succ_of_lt hlt)]
        exact Heap.get?_push_of_some _ e
    have lz : ys.length ≤ sizeLine := by rw [ay.length, List.length_mergeSort]; exact hz
    generalize PyProof.Rows.sortedHeap (s1.heap.push (seqObj "list" its.toArray 0)) s1.heap.objs.size its (PySem.W.sortVals (PySem.W.dataKind (PySem.W.sortingHeap (s1.heap.push (seqObj "list" its.toArray 0)) s1.heap.objs.size its) (ds.map pyF)) false its its).toArray = hh at I2 na3 ⊢
    have I5 : Inv X pins σ (upd H s1.heap.objs.size (.lst ys)) { s1 with heap := hh } := Inv.take (s := { s1 with heap := hh }) (h' := hh) (t' := s1.toks) I2 (fun b ob _ e => e) fp ⟨lz, _, c', ry, na3⟩
    exact ⟨_, rfl, .ref s1.heap.objs.size, _, I5, rfl, q _ ys hn ay⟩
  · cases hso
variable {W : WX} {os os1 : Os} {e : Expr} {f : Rho → Out (D × Rho)} {pos p : Pos}
def eSort (f : Rho → Out (D × Rho)) : Rho → Out (D × Rho) := fun ρ => (f ρ).bind fun p => (Out.of ((itemsA p.1).bind sortD)).bind fun c => .ok (.lst c, p.2)
theorem ve_sort (hu : X.A.units + 64 < cLine) (ha : VE X W os e f os1 false) (hm : X.mg "sorted" = none) (hc : X.calm = true := by rfl)
    (hg : Gl X "sorted" := by rfl) (he1 : starEach [e] X.env = (false, eval e X.env) :: starEach [] X.env := by rfl) (hpl : (backTo pos (starEach [] X.env)).any (·.1) = false := by rfl) :
    VE X W os (.Call (.Name "sorted" p) [e] [] pos) (eSort f) os1 true := by
  obtain ⟨ta, pa, ka⟩ := ha
  refine ⟨_, pe_callB (call_sortD hc hu) hg hm (by decide +kernel) (pa_cons pa pa_nil he1) (by decide) (by decide) he1 hpl, fun S σ H ρ Q rel P => ?_⟩
  refine ka S σ H ρ _ rel (Post.seq P (fun z => z) (fun c fs p => p) fun d ρ1 v S1 H1 st1 rel1 q1 P1 => ?_)
  have P1 := P1.step RV.ok st1
  dsimp only at P1
  cases hi : itemsA d with
  | none => rw [hi] at P1; exact P1.elim
  | some ds =>
    rw [hi] at P1
    have P1 : Post X W S1 H1 os1 σ os1 (RV X.K true) Q ((Out.of (sortD ds)).bind fun c => .ok (.lst c, ρ1)) := P1
    cases hs : sortD ds with
    | none => rw [hs] at P1; exact P1.elim
    | some out =>
      rw [hs] at P1
      refine ⟨v, S1, d, ds, out, rfl, rel1.sub, q1, hi, hs, fun l ys nl hys => ?_⟩
      have xx := Ext.newO (O := fun _ => False) (o := .lst ys) rel1.sub nl
      have hz : out.length ≤ sizeLine := by
        obtain ⟨_, _, _, hz⟩ := col_at (show At X.K S1 v d from q1) rel1.sub hi
        unfold sortD at hs
        split at hs
        · cases hs; rw [List.length_mergeSort]; exact hz
        · cases hs
      exact P1 (.ref l) S1 (upd H1 l (.lst ys)) (Stp.of_ext xx) (rel1.ext0 xx) ⟨.mkL (rel1.sub.free nl) upd_same hz hys, fun a e => by cases e; exact nl⟩
/-! x.pop(i) -/
theorem AtL.erase {K : PySem.W.Frag} {S : Hp} : ∀ {vs : List V} {ds : List D} (k : Nat), AtL K S vs ds → AtL K S (vs.eraseIdx k) (ds.eraseIdx k)
  | _, _, _, .nil => .nil
  | _, _, 0, .cons h t => t
  | _, _, k + 1, .cons h t => .cons h (AtL.erase k t)
def uPopAt : List D → List D → Option (D × List D)
  | ds, [] => uPop ds []
  | ds, [.int i] => if -(2 ^ 63) ≤ i ∧ i < 2 ^ 63 then (match seqIndex? i ds.length with
    | some k => ds[k]?.map fun d => (d, ds.eraseIdx k)
    | none => none) else none
  | _, _ => none
theorem own_popAt : OwnM X "list.pop" uPopAt := by
  refine ⟨fun x vs H Q => rPop x vs H Q ∨ rPopAt x vs H Q, fun pins s σ H x vs v us Q I rx rv h => h.elim (mt_pop pins s σ H x vs v us Q I rx rv) (mt_popAt pins s σ H x vs v us Q I rx rv), fun S H a vs ds ws es c ds' Q sub hH na r rw_ z e k => ?_⟩
  unfold uPopAt at e
  split at e
  · unfold uPop at e
    split at e
    · split at e
      · rename_i d hd
        cases e
        obtain ⟨v, ev, hv⟩ := r.get hd
        match ws, rw_ with
        | [], .nil => exact .inl ⟨a, vs, v, rfl, rfl, hH, by rw [r.length]; exact ev, k _ _ r.dropLast (by rw [List.length_dropLast]; omega) hv⟩
      · cases e
    · rename_i h2; exact (h2 rfl).elim
  · rename_i i
    split at e
    · rename_i hi
      split at e
      · rename_i j hj
        cases hd : ds[j]? with
        | none => rw [hd] at e; cases e
        | some d =>
          rw [hd] at e
          cases e
          obtain ⟨v, ev, hv⟩ := r.get hd
          match ws, rw_ with
          | [_], .cons (.int _) .nil => exact .inr ⟨a, vs, i, j, v, rfl, rfl, hH, hi.1, hi.2, by rw [r.length]; exact hj, ev, k _ _ (r.erase j) (Nat.le_trans (List.length_eraseIdx_le ..) z) hv⟩
      · cases e
    · cases e
  · cases e
end
end SW

set_option maxRecDepth 100000
/-! SW25: dict(list of pairs). -/
namespace SW
open PySem PySem.Spec PyProof.Rows L2

/-- one pair on the heap -/
structure Pz where
  k : NestedKey
  b : Addr
  v : V
  u : Value
  t : Addr
def pairD : D → Option (NestedKey × D)
  | .tup [kd, vd] => (keyT kd).map fun k => (k, vd)
  | _ => none
def pairsD : List D → Option (List (NestedKey × D))
  | [] => some []
  | d :: ds => match pairD d, pairsD ds with
    | some p, some ps => some (p :: ps)
    | _, _ => none
def putAll (ps : List (NestedKey × D)) (acc : List (NestedKey × D)) : List (NestedKey × D) := ps.foldl (fun a p => putD a p.1 p.2) acc
def dictD : D → Option D
  | .lst ds => (pairsD ds).map fun ps => .dct (putAll ps [])
  | _ => none
section
variable {X : Cx} {pins : List (Addr × Obj)} {σ : L2.St} {S H : Hp} {s : Shared}
structure PzOk (X : Cx) (S : Hp) (s : Shared) (z : Pz) (p : NestedKey × D) : Prop where
  k : z.k = p.1
  hk : At X.K S (.ref z.b) (keyB p.1)
  kt : keyT (keyB p.1) = some p.1
  hv : At X.K S z.v p.2
  rv : RelV z.v z.u
  tp : s.heap.IsTuple z.t #[.ref z.b, z.u]
theorem pair_tup {d : D} {p : NestedKey × D} (h : pairD d = some p) : ∃ kd vd, d = .tup [kd, vd] ∧ keyT kd = some p.1 ∧ p.2 = vd := by
  unfold pairD at h
  split at h
  · rename_i kd vd
    generalize hk : keyT kd = o at h
    cases o with
    | none => cases h
    | some k => cases h; exact ⟨kd, vd, rfl, hk, rfl⟩
  · cases h
theorem at_tup {K : PySem.W.Frag} {S : Hp} {v : V} {ds : List D} (h : At K S v (.tup ds)) : ∃ a vs, v = .ref a ∧ SqT K S a vs ∧ AtL K S vs ds := by
  cases h with
  | tup h z r => exact ⟨_, _, rfl, h, r⟩
theorem atl2 {K : PySem.W.Frag} {S : Hp} {vs : List V} {d e : D} (h : AtL K S vs [d, e]) : ∃ x y, vs = [x, y] ∧ At K S x d ∧ At K S y e := by
  cases h with
  | cons h1 t =>
    cases t with
    | cons h2 t2 => cases t2; exact ⟨_, _, rfl, h1, h2⟩
theorem rv2 {x y : V} {us : List Value} (h : Vals [x, y] us) : ∃ u w, us = [u, w] ∧ RelV x u ∧ RelV y w := by
  cases h with
  | cons h1 t =>
    cases t with
    | cons h2 t2 => cases t2; exact ⟨_, _, rfl, h1, h2⟩
theorem pget {α β : Type} {F : α → β → Prop} : ∀ {l : List α} {m : List β} {j : Nat} {a : α}, Paired F l m → l[j]? = some a → ∃ b, F a b
  | _, _, _, _, .nil, h => by simp at h
  | _, _, 0, _, .cons h _, e => by cases (show some _ = some _ by simpa using e); exact ⟨_, h⟩
  | _, _, j + 1, _, .cons _ t, e => pget t (j := j) (by simpa using e)
theorem pz_one (I : Inv X pins σ H s) (sub : Same S H) {v : V} {d : D} {u : Value} {p : NestedKey × D} (hat : At X.K S v d) (r : RelV v u) (h : pairD d = some p) : ∃ z, u = .ref z.t ∧ PzOk X S s z p := by
  obtain ⟨kd, vd, rfl, hk, hv⟩ := pair_tup h
  obtain ⟨a, vs, rfl, hs, rr⟩ := at_tup hat
  obtain ⟨kv, vv, rfl, hkv, hvv⟩ := atl2 rr
  obtain ⟨b, rfl, hb⟩ := at_key hkv hk
  obtain ⟨its, rv, ht, hz⟩ := I.tuple (sqT_mono sub hs)
  obtain ⟨bu, vu, rfl, rb, ru⟩ := rv2 rv
  obtain rfl : bu = Value.ref b := rb
  obtain rfl : u = Value.ref a := r
  exact ⟨⟨p.1, b, vv, vu, a⟩, rfl, ⟨rfl, hb, keyT_back hk, by rw [hv]; exact hvv, ru, ht⟩⟩
theorem pz_all (I : Inv X pins σ H s) (sub : Same S H) : ∀ {vs : List V} {ds : List D} {us : List Value} {ps : List (NestedKey × D)}, AtL X.K S vs ds → Vals vs us → pairsD ds = some ps → ∃ zs : List Pz, us = zs.map (fun z => .ref z.t) ∧ Paired (PzOk X S s) zs ps
  | _, _, _, _, .nil, .nil, h => by cases h; exact ⟨[], rfl, .nil⟩
  | _, _, _, _, .cons h1 t1, .cons h2 t2, h => by
    unfold pairsD at h
    split at h
    · rename_i p ps e1 e2
      cases h
      obtain ⟨z, rfl, hz⟩ := pz_one I sub h1 h2 e1
      obtain ⟨zs, rfl, hzs⟩ := pz_all I sub t1 t2 e2
      exact ⟨z :: zs, rfl, .cons hz hzs⟩
    · cases h
def storeAllX (zs : List Pz) (acc : XL) : XL := zs.foldl (fun a z => storeX a z.k z.b z.v) acc
theorem xr_all : ∀ (zs : List Pz) {xs : XL} {ys : List (NestedKey × Addr × Value)}, (∀ z ∈ zs, RelV z.v z.u) → XR xs ys → XR (storeAllX zs xs) (storedAllH ys (zs.map fun z => (z.k, z.b, z.u)))
  | [], _, _, _, r => r
  | z :: zs, _, _, h, r => xr_all zs (fun y hy => h y (List.mem_cons_of_mem _ hy)) (r.store z.k z.b (h z List.mem_cons_self))
theorem xd_all : ∀ {zs : List Pz} {ps : List (NestedKey × D)}, Paired (PzOk X S s) zs ps → ∀ {xs : XL} {ds : List (NestedKey × D)}, XD X.K S xs ds → (∀ p ∈ xs, keyT (keyB p.1) = some p.1) → XD X.K S (storeAllX zs xs) (putAll ps ds) ∧ ∀ p ∈ storeAllX zs xs, keyT (keyB p.1) = some p.1
  | _, _, .nil, _, _, r, hk => ⟨r, hk⟩
  | _, _, .cons h t, _, _, r, hk => by
    exact xd_all t (show XD X.K S (storeX _ _ _ _) (putD _ _ _) from by rw [h.k]; exact XD.store r h.hk h.hv) (store_kk hk (by rw [h.k]; exact h.kt))
theorem putAll_len : ∀ (ps ds : List (NestedKey × D)), (putAll ps ds).length ≤ ds.length + ps.length
  | [], _ => Nat.le_refl _
  | p :: ps, ds => by
    have := putAll_len ps (putD ds p.1 p.2)
    have := putD_len ds p.1 p.2
    rw [List.length_cons]
    show (putAll ps (putD ds p.1 p.2)).length ≤ _
    omega
theorem pairsD_len : ∀ {ds : List D} {ps : List (NestedKey × D)}, pairsD ds = some ps → ps.length = ds.length
  | [], _, h => by cases h; rfl
  | d :: ds, ps, h => by
    unfold pairsD at h
    split at h
    · rename_i p ps e1 e2
      cases h
      rw [List.length_cons, List.length_cons, pairsD_len e2]
    · cases h
def rDictL (K : PySem.W.Frag) : List V → Hp → VK → Prop := fun vs H Q => ∃ x S ds ps, vs = [x] ∧ Same S H ∧ At K S x (.lst ds) ∧ pairsD ds = some ps ∧
  ∀ p y xs, H p = none → NewX p xs y → XD K S xs (putAll ps []) → (∀ q ∈ xs, keyT (keyB q.1) = some q.1) → Q (.ref p) (upd H p (DT p y))
theorem call_dictL (hcalm : X.calm = true) (hu : X.A.units + 64 < cLine) : CallR X (.type "dict") (rDictL X.K) := by
  intro pins s σ H xs us Q I r h
  obtain ⟨x, S, ds, ps, rfl, sub, hat, hps, q⟩ := h
  obtain ⟨u, rfl, rx⟩ := vals1 r
  cases hat with
  | @lst a vs _ hs z rr =>
    obtain ⟨its, rv, pl, hz⟩ := I.list (SqL.of (K := X.K) (sub _ _ hs))
    obtain ⟨zs, rfl, hzs⟩ := pz_all I sub rr rv hps
    obtain rfl : u = Value.ref a := rx
    have lz : zs.length = ps.length := hzs.length
    have hzl : zs.length ≤ sizeLine := by rw [lz, pairsD_len hps]; exact z
    have hpi : PairItems s.heap (zs.map (fun z => Value.ref z.t)).toArray (fun j => (zs.map (·.t)).getD j 0) (zs.map fun z => (Value.ref z.b, z.u)) := by
      refine ⟨by simp, fun j k v hj => ?_⟩
      rw [List.getElem?_map] at hj
      cases hz2 : zs[j]? with
      | none => rw [hz2] at hj; cases hj
      | some y =>
        rw [hz2] at hj
        cases hj
        have et : (zs.map (·.t)).getD j 0 = y.t := by rw [List.getD_eq_getElem?_getD, List.getElem?_map, hz2]; rfl
        refine ⟨?_, ?_⟩
        · rw [List.getElem?_toArray, List.getElem?_map, hz2]
          show some (Value.ref y.t) = some (Value.ref ((zs.map (·.t)).getD j 0))
          rw [et]
        · show PairAt s.heap ((zs.map (·.t)).getD j 0) _ _
          rw [et]
          obtain ⟨p, ok⟩ := pget hzs hz2
          exact .inl ok.tp
    have hall : ∀ y ∈ zs, ∃ p, PzOk X S s y p := fun y hy => by
      obtain ⟨j, hj⟩ := List.getElem?_of_mem hy
      obtain ⟨p, ok⟩ := pget hzs hj
      exact ⟨p, ok⟩
    have hnew := I.hok.fresh (Nat.le_refl s.heap.objs.size)
    refine call_dict_pairsH (knd := nestedKind X.prog X.w) (ps := zs.map fun z => (z.k, z.b, z.u)) (PairArg.list a (zs.map (fun z => Value.ref z.t)).toArray (fun j => (zs.map (·.t)).getD j 0) (zs.map fun z => (Value.ref z.b, z.u))) (I.ok.hd hcalm) (by show X.A.units + 1 + 1 + 8 < cLine; omega) ⟨(let ⟨o, m, e, c, d, q⟩ := pl; ⟨o, m, e, c, d, q⟩), hpi⟩ ⟨by simp, fun i key v hr => ?_⟩ (fun h' hk p hp => ?_) (by rw [List.length_map]; exact hzl) fun h' tk dd hk => ?_
    · have hr : (zs.map fun z => (Value.ref z.b, z.u))[i]? = some (key, v) := hr
      rw [List.getElem?_map] at hr
      cases hz2 : zs[i]? with
      | none => rw [hz2] at hr; cases hr
      | some y =>
        rw [hz2] at hr
        cases hr
        exact ⟨y.k, y.b, by rw [List.getElem?_map, hz2]; rfl, rfl⟩
    · obtain ⟨y, hy, rfl⟩ := List.mem_map.mp hp
      obtain ⟨p, ok⟩ := hall y hy
      have I' : Inv X pins σ H { s with heap := h' } := I.kept (t' := s.toks) fun b o e => hk b o (Nat.ne_of_lt (Heap.lt_size e)) (by simp) e
      have ki := KeyAt.is I' (show KeyAt X.K H y.b p.1 from ⟨S, _, sub, ok.hk, ok.kt⟩)
      rw [← ok.k] at ki
      exact ki
    · obtain ⟨r2, kk⟩ := xd_all hzs (xs := []) (ds := []) .nil (fun p hp => by cases hp)
      have xr := xr_all zs (xs := []) (ys := []) (fun y hy => let ⟨p, ok⟩ := hall y hy; ok.rv) .nil
      obtain ⟨y, hn, hy⟩ := new_x (X := X) (a := s.heap.objs.size) (beq_eq_false_iff_ne.mpr (Ne.symm (Nat.ne_of_lt I.big))) dd xr (fun p hp => let ⟨_, _, e, _⟩ := keyT_some (kk p hp); keyD_free e)
      exact ⟨.ref s.heap.objs.size, _, I.laid (a := s.heap.objs.size) (o := DT s.heap.objs.size y) (t' := tk) (fun b o e => hk b o (by simp) e) (Nat.le_refl _) (dt_ok hy), rfl, q _ y _ hnew hn r2 kk⟩
variable {W : WX} {os os1 : Os} {e : Expr} {f : Rho → Out (D × Rho)} {pos p : Pos}
def eDictL (f : Rho → Out (D × Rho)) : Rho → Out (D × Rho) := fun ρ => (f ρ).bind fun p => (Out.of (dictD p.1)).bind fun c => .ok (c, p.2)
theorem ve_dictL (hu : X.A.units + 64 < cLine) (ha : VE X W os e f os1 false) (hm : X.mg "dict" = none) (hc : X.calm = true := by rfl)
    (hg : Gl X "dict" := by rfl) (he1 : starEach [e] X.env = (false, eval e X.env) :: starEach [] X.env := by rfl) (hpl : (backTo pos (starEach [] X.env)).any (·.1) = false := by rfl) :
    VE X W os (.Call (.Name "dict" p) [e] [] pos) (eDictL f) os1 true := by
  obtain ⟨ta, pa, ka⟩ := ha
  refine ⟨_, pe_callTy (call_dictL hc hu) hg hm (by decide +kernel) (pa_cons pa pa_nil he1) (by decide) (by decide) he1 hpl, fun S σ H ρ Q rel P => ?_⟩
  refine ka S σ H ρ _ rel (Post.seq P (fun z => z) (fun c fs p => p) fun d ρ1 v S1 H1 st1 rel1 q1 P1 => ?_)
  have P1 := P1.step RV.ok st1
  dsimp only at P1
  cases d with
  | lst ds =>
    have P1 : Post X W S1 H1 os1 σ os1 (RV X.K true) Q ((Out.of ((pairsD ds).map fun ps => D.dct (putAll ps []))).bind fun c => .ok (c, ρ1)) := P1
    cases hs : pairsD ds with
    | none => rw [hs] at P1; exact P1.elim
    | some ps =>
      rw [hs] at P1
      have q1 : At X.K S1 v (.lst ds) := q1
      refine ⟨v, S1, ds, ps, rfl, rel1.sub, q1, hs, fun l y xs nl hn hxd hk => ?_⟩
      have xx := Ext.newO (O := fun _ => False) (o := DT l y) rel1.sub nl
      obtain ⟨t, r⟩ := hn.tok hxd hk
      have hz : (putAll ps []).length ≤ sizeLine := by
        have h1 := putAll_len ps []
        rw [pairsD_len hs, List.length_nil, Nat.zero_add] at h1
        refine Nat.le_trans h1 ?_
        cases q1 with
        | lst _ z _ => exact z
      exact P1 (.ref l) S1 _ (Stp.of_ext xx) (rel1.ext0 xx) ⟨.mkX (rel1.sub.free nl) upd_same t hz r, fun a e => by cases e; exact nl⟩
  | _ => exact P1.elim
/-- x.pop(e): a dict or a list -/
theorem VE.orD {r : Bool} {f1 f2 : Rho → Out (D × Rho)} (i : Nat) (h1 : VE X W os e f1 os1 r) (h2 : VE X W os e f2 os1 r) : VE X W os e (fun ρ => match ρ.getD i none with | some (.dct _) => f1 ρ | _ => f2 ρ) os1 r := by
  obtain ⟨t1, p1, k1⟩ := h1
  obtain ⟨t2, p2, k2⟩ := h2
  refine ⟨_, pe_or p1 p2, fun S σ H ρ Q rel P => ?_⟩
  dsimp only at P
  split at P
  · exact .inl (k1 S σ H ρ Q rel P)
  · exact .inr (k2 S σ H ρ Q rel P)
def ePopA (i : Nat) (g : Rho → Out (D × Rho)) : Rho → Out (D × Rho) := fun ρ => match ρ.getD i none with
  | some (.dct _) => eDPop i g ρ
  | _ => eOwnM uPopAt i (aCons g aNil) ρ
theorem ve_popA (i : Nat) {f : Rho → Out (D × Rho)} (h1 : VE X W os e (eDPop i f) os1 false) (h2 : VE X W os e (eOwnM uPopAt i (aCons f aNil)) os1 false) : VE X W os e (ePopA i f) os1 false := VE.orD i h1 h2
end
end SW

set_option maxRecDepth 100000
/-! SW26: x[::-1] of lists. -/
namespace SW
open PySem PySem.Spec PyProof.Rows L2
section
variable {X : Cx} {W : WX} {os os1 os2 : Os} {e st : Expr} {f fs : Rho → Out (D × Rho)} {pos p2 : Pos} {te : TE} {ts : TO}
theorem pe_rev (he : PE X e te) (hst : PO X (some st) ts) : PE X (.Subscript e (.Slice none none (some st) p2) pos) (fun σ H Q => te σ H fun x H1 => ts σ H1 fun o H2 => o = some (-1) ∧ ∃ a xs, x = .ref a ∧ SqL X.K H2 a xs ∧ ∀ p, H2 p = none → Q (.ref p) (upd H2 p (.lst xs.reverse))) := by
  refine ⟨fun pins s σ H Q I h => ?_⟩
  refine Subscript_ (thn (he.run pins s σ H _ I h) fun v s1 ⟨x, H1, I1, r1, q1⟩ => ?_)
  refine wpAny_Slice ?_
  rw [evalPart_none]
  refine wpAny_pure ?_
  refine wpAny_pure ?_
  refine thn (hst.run pins s1 σ H1 _ I1 q1) fun vk s3 ⟨o, H3, I3, pk, ho, a, xs, ex, hx, q3⟩ => ?_
  subst ho ex
  obtain rfl : v = Value.ref a := r1
  have I4 : Inv X pins σ H3 { s3 with heap := s3.heap.push { cls := .type "slice", data := .fields #[.none, .none, vk] } } := I3.kept (t' := s3.toks) fun b ob q => Heap.get?_push_of_some _ q
  show wpAny (model X.prog X.w) X.A (subscriptTail e (.Slice none none (some st) p2) (.ref a) (.ref s3.heap.objs.size)) (EP X pins σ Q) X.xe { s3 with heap := s3.heap.push { cls := .type "slice", data := .fields #[.none, .none, vk] } }
  obtain ⟨its, r, ht, hz⟩ := I4.list hx
  have hlen := r.length
  refine tail_any (ops := [.ref a, .ref s3.heap.objs.size]) ht.isList.typeIs slot_list_getitem.lookup ?_ (by with_unfolding_all rfl)
  refine wpAny_getItem_list_slice ht.isList (Heap.IsSliceOf.new ..) .none .none pk (by decide) ?_ (by rw [List.size_toArray] <;> omega)
  rw [PySem.W.krv_pick]
  refine ⟨.ref _, _, I4.laid (t' := s3.toks) (o := .lst xs.reverse) (fun b ob q => Heap.get?_push_of_some _ q) (Nat.le_refl _) ?_, rfl, q3 _ (I4.hok.fresh (Nat.le_refl _))⟩
  exact ⟨by rw [List.length_reverse]; exact hz, _, 0, r.reverse, Heap.get?_push_size _ rfl⟩
/-- x[::k], k = -1 -/
def eRev (f : Rho → Out (D × Rho)) (g : Rho → Out (Option Int × Rho)) : Rho → Out (D × Rho) := fun ρ => (f ρ).bind fun p => (g p.2).bind fun q => match q.1, p.1 with
  | some (-1), .lst ds => .ok (.lst ds.reverse, q.2)
  | _, _ => .stuck
theorem ve_rev {g : Rho → Out (Option Int × Rho)} (ha : VE X W os e f os1 false) (hg : VO X W os1 (some st) g os2) : VE X W os (.Subscript e (.Slice none none (some st) p2) pos) (eRev f g) os2 true := by
  obtain ⟨ta, pa, ka⟩ := ha
  obtain ⟨tg, pg, kg⟩ := hg
  refine ⟨_, pe_rev pa pg, fun S σ H ρ Q rel P => ?_⟩
  refine ka S σ H ρ _ rel (Post.seq P (fun z => z) (fun c fs p => p) fun d ρ1 v S1 H1 st1 rel1 q1 P1 => ?_)
  have P1 := P1.step RV.ok st1
  refine kg S1 σ H1 ρ1 _ rel1 (Post.seq P1 (fun z => z) (fun c fs p => p) fun l ρ2 v2 S2 H2 st2 rel2 q2 P2 => ?_)
  have P2 := P2.step RV.ok st2
  cases q2
  dsimp only at P2
  split at P2
  · have q1 : At X.K S2 v (.lst _) := At.mono st2.ext.s q1
    cases q1 with
    | @lst a vs ds hs z r =>
      refine ⟨rfl, a, vs, rfl, .of (rel2.sub _ _ hs), fun p np => ?_⟩
      have xx := Ext.newO (O := fun _ => False) (o := .lst vs.reverse) rel2.sub np
      exact P2 (.ref p) S2 _ (Stp.of_ext xx) (rel2.ext0 xx) ⟨.mkL (rel2.sub.free np) upd_same (by rw [List.length_reverse]; exact z) r.reverse, fun b e => by cases e; exact np⟩
  · exact P2.elim
end
end SW

set_option maxRecDepth 100000
/-! SW27: raise C(); try: x = e, except C as n: y = n. -/
namespace SW
open PySem PySem.Spec PyProof.Rows L2
/-- what is known of an error's class -/
structure ExF (K : PySem.W.Frag) (mg : Str → Option Value) (x : Str) (C : Addr) : Prop where
  g : mg x = some (.ref C)
  k : PySem.W.keepIn K (.ref C) = true
  e : PySem.W.excIn K C vBase "ValueError.__new__" = true
  s : PySem.W.subIn K (.ref C) (.type "BaseException") = some true
  t : PySem.W.typeIn K (.ref C) = some (.type "type")
section
variable {X : Cx} {W : WX} {L : Lc} {os os1 : Os} {pos p cp : Pos} {x : Str} {C : Addr}
theorem pmk_own0 {B newId initId : String} {bmB : List Value} (F : ExcBaseFacts B newId initId bmB) (q : PySem.W.excIn X.K C bmB newId = true) (gC : X.mg x = some (.ref C)) (kC : PySem.W.keepIn X.K (.ref C) = true) (r : Raises X (.ref C)) (hg : Gl X x)
    (hdb : (x == ("__debug__" : Str)) = false := by decide) : PMk X (.Call (.Name x p) [] [] pos) (fun _ H Q => Q (.ref C) none H) := by
  intro pins s σ H Q I h
  refine wpAny_Call_Name_kw (ld_glob I hg gC ?_ hdb)
  refine PySem.W.callWith_K0 I.kIn kC ?_
  show wpAny _ _ (call (.ref C) []) _ _ _
  obtain ⟨bm, N, nm, qn, bs, hdct, sn, sub, ab, col, dd, k0, k1, k2, k3, k5, mN, hC, hN, hni, T⟩ := exc_obj I.kIn q
  refine wpAny_call_exc_subT F T hC hN hni (fun h' e hm => ?_) (Nat.zero_le _)
  exact mk_of I hm r h (I.hok.gone hm.new)
def sRaise0 (c : Str) : Rho → Out Fl := fun _ => .exc c none
theorem nn_raise (c : Str) : NoNx (sRaise0 c) := fun _ _ e => by cases e
theorem vs_raise0 (F : ExF X.K X.mg x C) (tk : Takes X W) (hg : Gl X x := by rfl) (hc : X.calm = true := by rfl) (hdb : (x == ("__debug__" : Str)) = false := by decide) : VS X W L os (.Raise (some (.Call (.Name x p) [] [] cp)) none pos) (sRaise0 x) os1 :=
  ⟨_, ps_raise hc tk (pmk_own0 PySem.F.excBase_ValueError F.e F.g F.k (raises_own F.s F.t) hg hdb), fun S σ H ρ Ds rel P => P σ S H (.ref C) none (Ext.refl rel.sub) ⟨F.g, rfl⟩⟩

/-! ### try -/
theorem Rel.none {K : PySem.W.Frag} {S H : Hp} {σ : Sg} {ρ : Rho} (r : Rel K S H os σ ρ) (i : Nat) (hi : os.getD i false = false) : Rel K S H os (σ.set i none) (ρ.set i none) where
  sub := r.sub
  len := by rw [List.length_set, List.length_set]; exact r.len
  slot := fun j x d e1 e2 => by
    by_cases hj : i = j
    · subst hj
      have h1 := (List.getElem?_eq_some_iff.mp e1).1
      have h2 := (List.getElem?_eq_some_iff.mp e2).1
      rw [List.length_set] at h1 h2
      rw [List.getElem?_set_self h1] at e1
      rw [List.getElem?_set_self h2] at e2
      cases e1; cases e2
      cases os.getD i false <;> trivial
    · rw [List.getElem?_set_ne hj] at e1 e2
      exact r.slot j x d e1 e2
  sep := fun j k a h1 h2 e1 e2 => by
    have hj : i ≠ j := fun z => by subst z; rw [hi] at h1; cases h1
    have hk : i ≠ k := fun z => by subst z; rw [hi] at h2; cases h2
    rw [List.getElem?_set_ne hj] at e1
    rw [List.getElem?_set_ne hk] at e2
    exact r.sep j k a h1 h2 e1 e2
def fl1 : Option (Str × D) → List (Str × D)
  | none => []
  | some p => [p]
/-- try: slot k = f; except: slot j = the error, slot i is empty then -/
def sTryC (okc : Str → Bool) (k i j : Nat) (f : Rho → Out (D × Rho)) : Rho → Out Fl := fun ρ => match f ρ with
  | .ok p => .ok (.nx (p.2.set k (some p.1)))
  | .exc c fs => if okc c = true then .ok (.nx ((ρ.set j (some (.exc c (fl1 fs)))).set i none)) else .stuck
  | .stuck => .stuck
/-- the classes that are caught -/
def OkC (K : PySem.W.Frag) (mg : Str → Option Value) (C0 : Value) (okc : Str → Bool) : Prop := ∀ c, okc c = true → ∃ C, mg c = some (.ref C) ∧ PySem.W.exmOne K (.ref C) C0 = some true ∧ PySem.W.nsIn K mainGlobals c = some (some (.ref C))
theorem at_exc {K : PySem.W.Frag} {mg : Str → Option Value} {S : Hp} {c : Str} {fs : Option (Str × D)} {cls : Value} {dd : Option Addr} {a C : Addr} (h : ExcAt K mg S c fs cls dd) (hm : mg c = some (.ref C)) (hn : PySem.W.nsIn K mainGlobals c = some (some (.ref C))) (na : S a = none) : At K (upd S a (ExT cls dd a)) (.ref a) (.exc c (fl1 fs)) := by
  obtain ⟨h1, h2⟩ := h
  rw [hm] at h1
  cases h1
  cases fs with
  | none =>
    obtain rfl : dd = none := h2
    exact .exc0 upd_same hn
  | some q =>
    obtain ⟨f, d⟩ := q
    obtain ⟨b, v, rfl, hb, hv⟩ := h2
    have hne : b ≠ a := fun z => by rw [z, na] at hb; cases hb
    refine .exc1 upd_same hn (by rw [upd_ne hne]; exact hb) (hv.mono fun b' o' e => ?_)
    have : b' ≠ a := fun z => by rw [z, na] at e; cases e
    rw [upd_ne this]; exact e
theorem vs_tryC {xk y n xc : Str} {e : Expr} {pk p1 pc py pn p2 p3 : Pos} {k i j : Nat} {C0 : Value} {okc : Str → Bool} {f : Rho → Out (D × Rho)} (hv : ∀ (W : WX) (pn : List (Addr × Obj)) (xe : Value → Shared → Prop), Takes (X.tr pn xe) W → PassesOwn (model X.prog X.w) X.A X.env xe → VE (X.tr pn xe) W os e f os false)
    (hO : OkC X.K X.mg C0 okc) (hcn : Names X xc C0) (hst : X.stack = X.env :: X.outer) (hfr : X.env.frame = some X.env.locals) (hex : X.ex = []) (hN : X.N.Nodup) (hk : X.N[k]? = some xk := by rfl) (hi : X.N[i]? = some n := by rfl) (hj : X.N[j]? = some y := by rfl)
    (hxk : Loc X.env.scope xk := by first | exact Or.inl rfl | exact Or.inr rfl) (hy : Loc X.env.scope y := by first | exact Or.inl rfl | exact Or.inr rfl) (hln : X.env.kindOf n = some .local := by rfl) (hvn : Vis X.env.scope n := by first | exact Or.inl rfl | exact Or.inr (Or.inl rfl) | exact Or.inr (Or.inr rfl))
    (hij : i ≠ j := by decide) (hfk : L.fx.getD k false = false := by rfl) (hfi : L.fx.getD i false = false := by rfl) (hfj : L.fx.getD j false = false := by rfl) (hos : os.all (fun b => !b) = true := by rfl)
    (hs1 : swapsWith e (some (.Name xk pk)) p1.line X.env = pure false := by rfl) (hs2 : swapsWith (.Name n pn) (some (.Name y py)) p2.line X.env = pure false := by rfl)
    (hf1 : X.fn xk = true ∨ X.env.scope.names.lookup xk = some .local := by first | exact .inl rfl | exact .inr rfl | assumption) (hf2 : X.fn y = true ∨ X.env.scope.names.lookup y = some .local := by first | exact .inl rfl | exact .inr rfl | assumption)
    (hd : (n == ("__debug__" : Str)) = false := by decide) (hcd : (n == ("__classdict__" : Str)) = false := by decide) :
    VS X W L os (.Try [.Assign [.Name xk pk] e p1] [.ExceptHandler (some (.Name xc pc)) (some n) [.Assign [.Name y py] (.Name n pn) p2] p3] [] [] pos) (sTryC okc k i j f) os := by
  have no : ∀ m, os.getD m false = false := fun m => by
    rw [List.getD_eq_getElem?_getD]
    cases h : os[m]? with
    | none => rfl
    | some b =>
      have := List.all_eq_true.mp hos b (List.mem_of_getElem? h)
      simpa using this
  have nown : ∀ σ a, ¬ Own os σ a := fun σ a ⟨m, h, _⟩ => by rw [no m] at h; cases h
  have sos : ∀ m, os.set m false = os := fun m => by
    refine List.ext_getElem? fun l => ?_
    by_cases h : m = l
    · subst h
      by_cases hl : m < os.length
      · rw [List.getElem?_set_self hl, List.getElem?_eq_getElem hl]
        have := no m
        rw [List.getD_eq_getElem?_getD, List.getElem?_eq_getElem hl] at this
        have this : os[m] = false := this
        rw [this]
      · rw [List.getElem?_eq_none (by rw [List.length_set]; omega), List.getElem?_eq_none (by omega)]
    · rw [List.getElem?_set_ne h]
  let tb : WX → TS := fun W' D σ H => ∀ (pn : List (Addr × Obj)) (xe : Value → Shared → Prop) (tk : Takes (X.tr pn xe) W') (po : PassesOwn (model X.prog X.w) X.A X.env xe), (Classical.choose (hv W' pn xe tk po)) σ H fun v H1 => D.nx (σ.set k (some v)) H1
  let ts : Addr → Value → Option Addr → TS := fun a _ _ D σ H => (i < σ.length → σ[i]? = some (some (.ref a))) ∧ D.nx (σ.set j (some (.ref a))) H
  refine ⟨_, ps_try_keep (tb := tb) (ts := ts) hst hfr hN hi hln hcn hex (fun W' pn xe tk po => ?_) (fun a oe cls d pn z hd' => ?_), fun S σ H ρ Ds rel P => ?_⟩
  · have hp := (Classical.choose_spec (hv W' pn xe tk po)).1
    have h1 := pss_one (ps_set (X := X.tr pn xe) (pos' := pk) hN hk hxk hp hs1 hf1)
    exact ⟨fun pins s σ H D I q => h1.run pins s σ H D I (q pn xe tk po)⟩
  · have h1 := pss_one (ps_set (X := X.suite a ((a, oe) :: pn)) (pos' := py) hN hj hy (pe_var (X := X.suite a ((a, oe) :: pn)) hi hvn hd hcd) hs2 hf2)
    exact ⟨fun pins s σ H D I q => h1.run pins s σ H D I ⟨.ref a, q.1 (by rw [I.len]; exact (List.getElem?_eq_some_iff.mp hi).1), q.2⟩⟩
  · intro pn xe tk po
    refine (Classical.choose_spec (hv _ pn xe tk po)).2 S σ H ρ _ rel ?_
    unfold sTryC at P
    cases hf : f ρ with
    | ok q =>
      rw [hf] at P
      intro v S' H' st r2 hvv
      have rr := r2.set (show At X.K S' v q.1 from hvv) k
      rw [sos k] at rr
      exact P (σ.set k (some v)) S' H' ⟨st.ext, fun a h => (nown _ a h).elim⟩ (fix_set hfk) rr
    | exc c fs =>
      rw [hf] at P
      dsimp only at P
      split at P
      · rename_i hc
        obtain ⟨C, g1, g2, g3⟩ := hO c hc
        intro S' H' cls dd x ea
        have ecls : cls = .ref C := by
          have := ea.1
          have this : X.mg c = some cls := this
          rw [g1] at this
          exact (Option.some.inj this).symm
        subst ecls
        refine ⟨g2, fun a na => ?_⟩
        refine ⟨fun hil => List.getElem?_set_self (by rwa [List.length_set] at hil), ?_⟩
        have x0 : Ext (fun _ => False) S H S' H' := x.weak fun b q => nown _ b q
        have r1 := rel.ext0 x0
        have nS : S' a = none := r1.sub.free na
        have x2 := Ext.new (O := fun _ => False) (o := ExT (.ref C) dd a) r1.sub na
        have r2 := (r1.ext0 x2).set (at_exc (a := a) ea g1 g3 nS) j
        rw [sos j] at r2
        have r3 := r2.none i (no i)
        have eσ : (((σ.set i (some (.ref a))).set j (some (.ref a))).set i none) = (σ.set j (some (.ref a))).set i none := by
          rw [List.set_comm _ _ hij, List.set_set]
        show Ds.nx (((σ.set i (some (.ref a))).set j (some (.ref a))).set i none) (upd H' a (ExT (.ref C) dd a))
        rw [eσ]
        exact P _ _ _ ⟨(x0.trans x2 fun b q => .inl q).weak fun _ z => z.elim, fun b h => (nown _ b h).elim⟩ ((fix_set hfj).trans (fix_set hfi)) r3
      · exact P.elim
    | stuck => rw [hf] at P; exact P.elim
end
end SW

set_option maxRecDepth 100000
/-! SW28: isinstance of a kept error; l.index(x). -/
namespace SW
open PySem PySem.Spec PyProof.Rows L2
section
variable {X : Cx} {W : WX} {os os1 os2 : Os} {e ec e2 : Expr} {f f2 : Rho → Out (D × Rho)} {pos p : Pos}
/-- what the class tv tells of the known errors' classes -/
def OkI (K : PySem.W.Frag) (tv : Value) (sub : Str → Option Bool) : Prop := ∀ c b, sub c = some b → ∀ C, PySem.W.nsIn K mainGlobals c = some (some (.ref C)) → ExcC K C ∧ PySem.W.kitOne K (.ref C) tv = some b
def isXD (sub : Str → Option Bool) : D → Option D
  | .exc c [] => (sub c).map .bl
  | _ => none
theorem isXD_some {sub : Str → Option Bool} {d c : D} (h : isXD sub d = some c) : ∃ x b, d = .exc x [] ∧ sub x = some b ∧ c = .bl b := by
  unfold isXD at h
  split at h
  · rename_i x
    cases hs : sub x with
    | none => rw [hs] at h; cases h
    | some b => rw [hs] at h; cases h; exact ⟨x, b, rfl, hs, rfl⟩
  · cases h
def eIsX (sub : Str → Option Bool) (f : Rho → Out (D × Rho)) : Rho → Out (D × Rho) := fun ρ => (f ρ).bind fun p => (Out.of (isXD sub p.1)).bind fun b => .ok (b, p.2)
theorem ve_isX {sub : Str → Option Bool} {tv : Value} {t : V} (hO : OkI X.K tv sub) (pc : PE X ec (tC t)) (hr : ∀ u, RelV t u → u = tv) (ha : VE X W os e f os1 false) (hm : X.mg "isinstance" = none) (hg : Gl X "isinstance" := by rfl)
    (he : starEach [e, ec] X.env = (false, eval e X.env) :: starEach [ec] X.env := by rfl) (he2 : starEach [ec] X.env = (false, eval ec X.env) :: starEach [] X.env := by rfl) (hpl : (backTo pos (starEach [ec] X.env)).any (·.1) = false := by rfl) :
    VE X W os (.Call (.Name "isinstance" p) [e, ec] [] pos) (eIsX sub f) os1 false := by
  obtain ⟨ta, pa, ka⟩ := ha
  refine ⟨_, pe_callB call_isX hg hm (by decide +kernel) (pa_cons pa (pa_cons pc pa_nil he2) he) (by decide) (by decide) he hpl, fun S σ H ρ Q rel P => ?_⟩
  refine ka S σ H ρ _ rel (Post.seq P (fun z => z) (fun c fs p => p) fun d ρ1 v S1 H1 st1 rel1 q1 P1 => ?_)
  obtain ⟨c, hc, k⟩ := post_of (P1.step RV.ok st1) rel1
  obtain ⟨x, b, ed, hs, rfl⟩ := isXD_some hc
  have q1 : At X.K S1 v d := q1
  have ed : d = .exc x [] := ed
  subst ed
  cases q1 with
  | @exc0 a C _ h n =>
    obtain ⟨h1, h2⟩ := hO x b hs C n
    exact ⟨a, C, t, tv, b, rfl, rel1.sub _ _ h, h1, hr, h2, k (.bl b) S1 H1 (Ext.refl rel1.sub) (.bl b)⟩

/-! l.index(x) -/
def idxL (p : PyData) : List PyData → Nat → Option Nat
  | [], _ => none
  | q :: qs, n => if PyData.eqv q p = true then some n else idxL p qs (n + 1)
theorem idxL_some {p : PyData} : ∀ {qs : List PyData} {n j : Nat}, idxL p qs n = some j → n ≤ j ∧ (∃ z, qs[j - n]? = some z ∧ PyData.eqv z p = true) ∧ ∀ m z', m < j - n → qs[m]? = some z' → PyData.eqv z' p = false
  | [], _, _, h => by cases h
  | q :: qs, n, j, h => by
    unfold idxL at h
    split at h
    · rename_i hq
      cases h
      refine ⟨Nat.le_refl _, ⟨q, by rw [Nat.sub_self]; rfl, hq⟩, fun m z' hm => by omega⟩
    · rename_i hq
      obtain ⟨h1, ⟨z, h2, h3⟩, h4⟩ := idxL_some h
      have e : j - n = (j - (n + 1)) + 1 := by omega
      refine ⟨by omega, ⟨z, by rw [e]; exact h2, h3⟩, fun m z' hm hz => ?_⟩
      cases m with
      | zero =>
        cases (show some q = some z' by simpa using hz)
        simpa using hq
      | succ m => exact h4 m z' (by omega) (by simpa using hz)
def indexD : D → List D → Option D
  | .lst ds, [x] => match (D.lst ds).py, x.py with
    | some (.list ps), some p => if SeqAt.shaped (.list ps) = true ∧ SeqAt.shaped p = true then (idxL p ps 0).map fun j => .int (j : Nat) else none
    | _, _ => none
  | _, _ => none
def eIndex (f f2 : Rho → Out (D × Rho)) : Rho → Out (D × Rho) := fun ρ => (f ρ).bind fun p => match p.1 with
  | .lst ds => (f2 p.2).bind fun q => (Out.of (indexD (.lst ds) [q.1])).bind fun c => .ok (c, q.2)
  | _ => .stuck
theorem ve_index {apos cpos : Pos} (hu : X.A.units + 65 < cLine) (ha : VE X W os e f os1 false) (hb : VE X W os1 e2 f2 os2 false)
    (hbase : attributeBase e "index" X.env (eval e X.env) = eval e X.env := by rfl)
    (hfew : ((backTo cpos (starEach [e2] X.env)).all (fun x => !x.1) && (backToKw cpos (keywordEach [] X.env)).all (fun x => x.1.isSome)
      && decide (([e2] : List Expr).length + ([] : List Keyword).length + (if ([] : List Keyword).isEmpty then 0 else 1) < 30)) = true := by rfl)
    (hline : (apos.endLine == cpos.line) = true := by rfl) (hs : starEach [e2] X.env = (false, eval e2 X.env) :: starEach [] X.env := by rfl) (hplain : (backTo cpos (starEach [] X.env)).any (·.1) = false := by rfl) :
    VE X W os (.Call (.Attribute e "index" apos) [e2] [] cpos) (eIndex f f2) os2 false := by
  obtain ⟨ta, pa, ka⟩ := ha
  obtain ⟨tb, pb, kb⟩ := hb
  refine ⟨_, pe_bm PySem.F.plainAttrs_list PySem.F.slot_list_index PySem.F.type_list_index (mt_indexD hu) pa (pa_cons pb pa_nil hs) hbase hfew hline hs hplain, fun S σ H ρ Q rel P => ?_⟩
  refine ka S σ H ρ _ rel (Post.seq P (fun z => z) (fun c fs p => p) fun d ρ1 v S1 H1 st1 rel1 q1 P1 => ?_)
  have P1 := P1.step RV.ok st1
  cases d with
  | lst ds =>
    dsimp only at P1
    have q1 : At X.K S1 v (.lst ds) := q1
    obtain ⟨a, vs, rfl, hsq⟩ : ∃ a vs, v = .ref a ∧ S1 a = some (.lst vs) := by
      cases q1 with
      | lst h z r => exact ⟨_, _, rfl, h⟩
    refine ⟨.inl ⟨rfl, vs, .of (rel1.sub _ _ hsq)⟩, ?_⟩
    refine kb S1 σ H1 ρ1 _ rel1 (Post.seq P1 (fun z => z) (fun c fs p => p) fun d2 ρ2 v2 S2 H2 st2 rel2 q2 P2 => ?_)
    obtain ⟨c, hc, k⟩ := post_of (P2.step RV.ok st2) rel2
    unfold indexD at hc
    dsimp only at hc
    split at hc
    · rename_i ps p e1 e3
      split at hc
      · rename_i hsh
        cases hj : idxL p ps 0 with
        | none => rw [hj] at hc; cases hc
        | some j =>
          rw [hj] at hc
          cases hc
          obtain ⟨_, ⟨z, h2, h3⟩, h4⟩ := idxL_some hj
          have q1' : At X.K S2 (.ref a) (.lst ds) := At.mono st2.ext.s q1
          have q2 : At X.K S2 v2 d2 := q2
          exact ⟨a, v2, p, ps, j, z, rfl, rfl, (q1'.mono rel2.sub).dp e1, (q2.mono rel2.sub).dp e3, hsh.1, hsh.2, h2, h3, h4, k (.int (j : Nat)) S2 H2 (Ext.refl rel2.sub) (.int _)⟩
      · cases hc
    · cases hc
  | _ => exact P1.elim
end
end SW

set_option maxRecDepth 100000
/-! SW29: instances of a class: attributes, methods, making, storing; a call that borrows. -/
namespace SW
open PySem PySem.Spec PyProof.Rows L2
def putFD (f : Str) (v : D) : List (Str × D) → List (Str × D)
  | [] => [(f, v)]
  | (g, x) :: r => if g = f then (g, v) :: r else (g, x) :: putFD f v r
section
variable {K : PySem.W.Frag} {S : Hp}
theorem lookup_at {f : Str} {d : D} : ∀ {fv : List (Str × V)} {fs : List (Str × D)}, fv.map (·.1) = fs.map (·.1) → AtL K S (fv.map (·.2)) (fs.map (·.2)) → fs.lookup f = some d → ∃ v, fv.lookup f = some v ∧ At K S v d
  | [], [], _, _, h => by cases h
  | [], _ :: _, q, _, _ => by cases q
  | _ :: _, [], q, _, _ => by cases q
  | (g, v) :: fv, (g', d') :: fs, q, r, h => by
    rw [List.map_cons, List.map_cons, List.cons.injEq] at q
    obtain ⟨q1, q2⟩ := q
    obtain rfl : g = g' := q1
    rw [List.map_cons, List.map_cons] at r
    cases r with
    | cons h1 r =>
    rw [List.lookup_cons] at h ⊢
    cases e : f == g with
    | true => rw [e] at h; cases h; exact ⟨v, rfl, h1⟩
    | false => rw [e] at h; exact lookup_at q2 r h
theorem lookup_no {f : Str} : ∀ {fv : List (Str × V)} {fs : List (Str × D)}, fv.map (·.1) = fs.map (·.1) → fs.lookup f = none → fv.lookup f = none
  | [], _, _, _ => rfl
  | _ :: _, [], q, _ => by cases q
  | (g, v) :: fv, (g', d') :: fs, q, h => by
    rw [List.map_cons, List.map_cons, List.cons.injEq] at q
    obtain ⟨q1, q2⟩ := q
    obtain rfl : g = g' := q1
    rw [List.lookup_cons] at h ⊢
    cases e : f == g with
    | true => rw [e] at h; cases h
    | false => rw [e] at h; exact lookup_no q2 h
theorem putF_names {f : Str} {v : V} {d : D} : ∀ {fv : List (Str × V)} {fs : List (Str × D)}, fv.map (·.1) = fs.map (·.1) → (putF f v fv).map (·.1) = (putFD f d fs).map (·.1)
  | [], [], _ => rfl
  | [], _ :: _, q => by cases q
  | _ :: _, [], q => by cases q
  | (g, x) :: fv, (g', y) :: fs, q => by
    rw [List.map_cons, List.map_cons, List.cons.injEq] at q
    obtain ⟨q1, q2⟩ := q
    obtain rfl : g = g' := q1
    unfold putF putFD
    by_cases e : g = f
    · rw [if_pos e, if_pos e, List.map_cons, List.map_cons, q2]
    · rw [if_neg e, if_neg e, List.map_cons, List.map_cons, putF_names q2]
theorem putF_at {f : Str} {v : V} {d : D} (hv : At K S v d) : ∀ {fv : List (Str × V)} {fs : List (Str × D)}, fv.map (·.1) = fs.map (·.1) → AtL K S (fv.map (·.2)) (fs.map (·.2)) → AtL K S ((putF f v fv).map (·.2)) ((putFD f d fs).map (·.2))
  | [], [], _, _ => .cons hv .nil
  | [], _ :: _, q, _ => by cases q
  | _ :: _, [], q, _ => by cases q
  | (g, x) :: fv, (g', y) :: fs, q, r => by
    rw [List.map_cons, List.map_cons, List.cons.injEq] at q
    obtain ⟨q1, q2⟩ := q
    obtain rfl : g = g' := q1
    rw [List.map_cons, List.map_cons] at r
    cases r with
    | cons h1 r =>
    unfold putF putFD
    by_cases e : g = f
    · rw [if_pos e, if_pos e]; exact .cons hv r
    · rw [if_neg e, if_neg e]; exact .cons h1 (putF_at hv q2 r)
end
/-- an attribute -/
def fldD (c f : Str) : D → Option D
  | .ins c' fs => if c' = c then fs.lookup f else none
  | _ => none
/-- an instance of c whose own attributes hide no method m -/
def insD (c m : Str) : D → Option D
  | .ins c' fs => if c' = c then (match fs.lookup m with | none => some (.ins c' fs) | some _ => none) else none
  | _ => none
theorem fldD_any {c c' f : Str} {fs : List (Str × D)} : fldD c f (.ins c' fs) = if c' = c then fs.lookup f else none := rfl
theorem insD_any {c c' m : Str} {fs : List (Str × D)} : insD c m (.ins c' fs) = if c' = c then (match fs.lookup m with | none => some (.ins c' fs) | some _ => none) else none := rfl
theorem fldD_ins {c f : Str} {fs : List (Str × D)} : fldD c f (.ins c fs) = fs.lookup f := by rw [fldD_any, if_pos rfl]
theorem insD_ins {c m : Str} {fs : List (Str × D)} (h : fs.lookup m = none) : insD c m (.ins c fs) = some (.ins c fs) := by rw [insD_any, if_pos rfl, h]
/-- what is known of a class -/
structure ClsF (K : PySem.W.Frag) (mg : Str → Option Value) (c : Str) (C : Addr) : Prop where
  g : mg c = some (.ref C)
  n : PySem.W.nsIn K mainGlobals c = some (some (.ref C))
  cl : Cls K C
section
variable {X : Cx} {W : WX} {os os1 os2 : Os} {e o : Expr} {es : List Expr} {f : Str} {fo : Rho → Out (D × Rho)} {g : Rho → Out (List D × Rho)} {pos apos p : Pos} {c m : Str} {C fa : Addr} {fd : FuncData} {ps : List Str} {k kk : Nat} {r : Bool} {sp : Sp} {E : L2.St → XK} {ta : TE} {t : TA}
theorem ve_fld (F : ClsF X.K X.mg c C) (na : NoAttr X.K C f) (ho : VE X W os e fo os1 false) (hb : attributeBase e f X.env (eval e X.env) = eval e X.env := by rfl) : VE X W os (.Attribute e f pos) (eOp1 (fldD c f) fo) os1 false := by
  obtain ⟨t, pt, kt⟩ := ho
  refine ⟨_, pe_fld pt hb, fun S σ H ρ Q rel P => ?_⟩
  refine kt S σ H ρ _ rel (Post.seq P (fun z => z) (fun _ _ p => p) fun d ρ1 v S1 H1 st rel1 q P1 => ?_)
  replace P1 := P1.step RV.ok st
  dsimp only at P1
  replace q : At X.K S1 v d := q
  cases d with
  | ins c' fs =>
    rw [fldD_any] at P1
    split at P1
    · rename_i ec
      subst ec
      cases hl : fs.lookup f with
      | none => rw [hl] at P1; exact P1.elim
      | some d =>
        rw [hl] at P1
        cases q with
        | ins hS hC hd hq hr =>
          rw [F.n] at hC
          cases hC
          obtain ⟨u, eu, au⟩ := lookup_at hq hr hl
          exact ⟨_, _, _, _, u, rfl, rel1.sub _ _ hS, F.cl, na, eu, P1.fin (os' := os1) rel1 au⟩
    · exact P1.elim
  | _ => exact P1.elim

/-! ### methods -/
def tMethE (C : Addr) (m : Str) (sp : Sp) (E : L2.St → XK) (ta : TE) (t : TA) : TE := fun σ H Q => ta σ H fun x H1 => ∃ a dx fs, x = .ref a ∧ H1 a = some (.ins C dx fs) ∧ fs.lookup m = none ∧
  t σ H1 fun vs H2 => sp (x :: vs) H2 Q (E σ)
theorem pe_methE {pl : Sem Bool} (he : PE X o ta) (c : Cls X.K C) (hm : Meth X.K C m fa) (F : FnOk X.prog X.w X.K X.mg X.base (L2.CX X.prog X.w) k fa fd ps sp) (hr : Room k X.A) (hb : Binds X.K fd ps []) (hx : ∀ σ, PassesAt (L2.CX X.prog X.w) X σ (E σ)) (ha : PA X (e :: es) t)
    (hst : starEach (e :: es) X.env = (false, eval e X.env) :: starEach es X.env := by rfl) (hpl : (backTo pos (starEach es X.env)).any (·.1) = false := by rfl)
    (ht : eval (.Call (.Attribute o m apos) (e :: es) [] pos) X.env = (do
      let ov ← eval o X.env
      standAt apos.atName
      let (f, first) ← holding [ov] (getMethod ov m pl)
      callWith pos f first (backTo pos (starEach (e :: es) X.env)) (backToKw pos (keywordEach [] X.env))) := by rfl) :
    PE X (.Call (.Attribute o m apos) (e :: es) [] pos) (tMethE C m sp E ta t) := by
  refine ⟨fun pins s σ H Q I h => ?_⟩
  refine PySem.W.methodCall_KW (pl := pl) (thn (he.run pins s σ H _ I h) fun u s1 ⟨x, H1, I1, rx, a, dx, fs, ex, ea, l, q⟩ => ?_) ht
  subst ex
  obtain rfl : u = Value.ref a := rx
  refine getmeth_ok I1 ea c hm l ?_
  refine PySem.W.callWith_K (first := [.ref a]) (h₀ := X.base) I.ok.mod.kin hm.kp (thn (ha.run pos pins s1 σ H1 _ I1 q) fun us s2 ⟨vs, H2, I2, r, q2⟩ => ⟨I2.kIn, ?_⟩) hst hpl
  exact run_fnS (us := .ref a :: us) (vs := .ref a :: vs) F hr hb (hx σ) I2 (.cons rfl r) q2
theorem pe_methE0 {pl : Sem Bool} (he : PE X o ta) (c : Cls X.K C) (hm : Meth X.K C m fa) (F : FnOk X.prog X.w X.K X.mg X.base (L2.CX X.prog X.w) k fa fd ps sp) (hr : Room k X.A) (hb : Binds X.K fd ps []) (hx : ∀ σ, PassesAt (L2.CX X.prog X.w) X σ (E σ))
    (ht : eval (.Call (.Attribute o m apos) [] [] pos) X.env = (do
      let ov ← eval o X.env
      standAt apos.atName
      let (f, first) ← holding [ov] (getMethod ov m pl)
      callWith pos f first (backTo pos (starEach [] X.env)) (backToKw pos (keywordEach [] X.env))) := by rfl) :
    PE X (.Call (.Attribute o m apos) [] [] pos) (tMethE C m sp E ta tNil) := by
  refine ⟨fun pins s σ H Q I h => ?_⟩
  refine PySem.W.methodCall_KW (pl := pl) (thn (he.run pins s σ H _ I h) fun u s1 ⟨x, H1, I1, rx, a, dx, fs, ex, ea, l, q⟩ => ?_) ht
  subst ex
  obtain rfl : u = Value.ref a := rx
  refine getmeth_ok I1 ea c hm l ?_
  exact PySem.W.callWith_K0 (first := [.ref a]) I1.kIn hm.kp (run_fnS (us := [.ref a]) (vs := [.ref a]) F hr hb (hx σ) I1 (.cons rfl .nil) q)
/-- what is known of the receiver -/
theorem ins_of {S H : Hp} {v : V} {d d1 : D} (F : ClsF X.K X.mg c C) (q : At X.K S v d) (sub : Same S H) (h : insD c m d = some d1) : d1 = d ∧ ∃ a dx fs, v = .ref a ∧ H a = some (.ins C dx fs) ∧ fs.lookup m = none := by
  cases d with
  | ins c' fs =>
    rw [insD_any] at h
    split at h
    · rename_i ec
      subst ec
      cases hl : fs.lookup m with
      | some d => rw [hl] at h; cases h
      | none =>
        rw [hl] at h
        cases h
        cases q with
        | ins hS hC hd hq hr =>
          rw [F.n] at hC
          cases hC
          exact ⟨rfl, _, _, _, rfl, sub _ _ hS, lookup_no hq hl⟩
    · cases h
  | _ => cases h
theorem ve_meth {mm : List D → Out (D × D)} (Fc : ClsF X.K X.mg c C) (hm : Meth X.K C m fa) (F : FnOk X.prog X.w X.K X.mg X.base (L2.CX X.prog X.w) kk fa fd ps (spec X.K X.mg (es.length + 2) none r mm)) (tk : Takes X W)
    (hr : Room kk X.A) (hb : Binds X.K fd ps []) (ho : VE X W os o fo os1 false) (ha : VA X W os1 (e :: es) g os2) {pl : Sem Bool}
    (hst : starEach (e :: es) X.env = (false, eval e X.env) :: starEach es X.env := by rfl) (hpl : (backTo pos (starEach es X.env)).any (·.1) = false := by rfl)
    (ht : eval (.Call (.Attribute o m apos) (e :: es) [] pos) X.env = (do
      let ov ← eval o X.env
      standAt apos.atName
      let (f, first) ← holding [ov] (getMethod ov m pl)
      callWith pos f first (backTo pos (starEach (e :: es) X.env)) (backToKw pos (keywordEach [] X.env))) := by rfl) :
    VE X W os (.Call (.Attribute o m apos) (e :: es) [] pos) (eCall mm (aCons (eOp1 (insD c m) fo) g)) os2 r := by
  obtain ⟨tb, pb, kb⟩ := ho
  obtain ⟨ta, pa, ka⟩ := ha
  refine ⟨_, pe_methE pb Fc.cl hm F hr hb (fun σ => passAt tk σ) pa hst hpl ht, fun S σ H ρ Q rel P => ?_⟩
  unfold eCall aCons eOp1 at P
  refine kb S σ H ρ _ rel ?_
  have P0 : Post X W S H os σ os2 (RV X.K r) Q ((fo ρ).bind fun p0 => ((Out.of (insD c m p0.1)).bind fun c => .ok (c, p0.2)).bind fun p => ((g p.2).bind fun q => .ok (p.1 :: q.1, q.2)).bind fun p => (mm p.1).bind fun q => .ok (q.1, p.2)) := by
    cases hf : fo ρ with
    | ok z =>
      rw [hf] at P
      cases hi : insD c m z.1 with
      | none => rw [bind_ok, hi] at P; exact P.elim
      | some d1 =>
        rw [bind_ok, hi] at P
        rw [bind_ok, hi]
        exact P
    | exc c fs => rw [hf] at P; exact P
    | stuck => rw [hf] at P; exact P
  refine Post.seq P0 (fun z => z) (fun _ _ p => p) fun d ρ1 v S1 H1 st1 rel1 q1 P1 => ?_
  replace P1 := P1.step RV.ok st1
  dsimp only at P1
  cases hi : insD c m d with
  | none => rw [hi] at P1; exact P1.elim
  | some d1 =>
    rw [hi] at P1
    obtain ⟨e1, a, dx, fs, ev, ea, el⟩ := ins_of Fc (show At X.K S1 v d from q1) rel1.sub hi
    subst e1
    refine ⟨a, dx, fs, ev, ea, el, ?_⟩
    have P2 : Post X W S1 H1 os1 σ os2 (RV X.K r) Q ((g ρ1).bind fun q => (mm (d1 :: q.1)).bind fun q' => .ok (q'.1, q.2)) := by
      cases hg : g ρ1 with
      | ok z => rw [of_some, bind_ok, bind_ok] at P1; rw [hg] at P1; exact P1
      | exc c fs => rw [of_some, bind_ok, bind_ok] at P1; rw [hg] at P1; exact P1
      | stuck => rw [of_some, bind_ok, bind_ok] at P1; rw [hg] at P1; exact P1
    refine ka S1 σ H1 ρ1 _ rel1 (Post.seq P2 (fun z => z) (fun _ _ p => p) fun ds ρ2 vs S2 H2 st2 rel2 q2 P3 => ?_)
    replace P3 := P3.step RV.ok st2
    replace q1 : At X.K S2 v d1 := At.mono st2.ext.s q1
    refine ⟨by rw [List.length_cons, q2.1.length, q2.2]; rfl, S2, d1 :: ds, rel_args (.cons q1 q2.1) rel2.sub, ?_⟩
    dsimp only at P3
    cases hmd : mm (d1 :: ds) with
    | ok z =>
      rw [hmd] at P3
      intro v S' H' x q _
      have x' : Ext (fun _ => False) S2 H2 S' H' := x.weak fun _ z => own_nil z
      exact P3 v S' H' (Stp.of_ext x') (rel2.ext0 x') q
    | exc c fs =>
      rw [hmd] at P3
      exact fun S' H' cls dd x q => P3 S' H' cls dd (x.weak fun _ z => (own_nil z).elim) q
    | stuck => rw [hmd] at P3; exact P3.elim
theorem ve_meth0 {mm : List D → Out (D × D)} (Fc : ClsF X.K X.mg c C) (hm : Meth X.K C m fa) (F : FnOk X.prog X.w X.K X.mg X.base (L2.CX X.prog X.w) kk fa fd ps (spec X.K X.mg 1 none r mm)) (tk : Takes X W)
    (hr : Room kk X.A) (hb : Binds X.K fd ps []) (ho : VE X W os o fo os1 false) {pl : Sem Bool}
    (ht : eval (.Call (.Attribute o m apos) [] [] pos) X.env = (do
      let ov ← eval o X.env
      standAt apos.atName
      let (f, first) ← holding [ov] (getMethod ov m pl)
      callWith pos f first (backTo pos (starEach [] X.env)) (backToKw pos (keywordEach [] X.env))) := by rfl) :
    VE X W os (.Call (.Attribute o m apos) [] [] pos) (eCall mm (aCons (eOp1 (insD c m) fo) aNil)) os1 r := by
  obtain ⟨tb, pb, kb⟩ := ho
  refine ⟨_, pe_methE0 pb Fc.cl hm F hr hb (fun σ => passAt tk σ) ht, fun S σ H ρ Q rel P => ?_⟩
  unfold eCall aCons eOp1 aNil at P
  refine kb S σ H ρ _ rel ?_
  have P0 : Post X W S H os σ os1 (RV X.K r) Q ((fo ρ).bind fun p0 => ((Out.of (insD c m p0.1)).bind fun c => (mm [c]).bind fun q => .ok (q.1, p0.2))) := by
    cases hf : fo ρ with
    | ok z =>
      rw [hf] at P
      cases hi : insD c m z.1 with
      | none => rw [bind_ok, hi] at P; exact P.elim
      | some d1 =>
        rw [bind_ok, hi] at P
        rw [bind_ok, hi]
        exact P
    | exc c fs => rw [hf] at P; exact P
    | stuck => rw [hf] at P; exact P
  refine Post.seq P0 (fun z => z) (fun _ _ p => p) fun d ρ1 v S1 H1 st1 rel1 q1 P1 => ?_
  replace P1 := P1.step RV.ok st1
  dsimp only at P1
  cases hi : insD c m d with
  | none => rw [hi] at P1; exact P1.elim
  | some d1 =>
    rw [hi] at P1
    obtain ⟨e1, a, dx, fs, ev, ea, el⟩ := ins_of Fc (show At X.K S1 v d from q1) rel1.sub hi
    subst e1
    refine ⟨a, dx, fs, ev, ea, el, ?_⟩
    refine ⟨rfl, S1, [d1], rel_args (.cons q1 .nil) rel1.sub, ?_⟩
    rw [of_some, bind_ok] at P1
    cases hmd : mm [d1] with
    | ok z =>
      rw [hmd] at P1
      intro v S' H' x q _
      have x' : Ext (fun _ => False) S1 H1 S' H' := x.weak fun _ z => own_nil z
      exact P1 v S' H' (Stp.of_ext x') (rel1.ext0 x') q
    | exc c fs =>
      rw [hmd] at P1
      exact fun S' H' cls dd x q => P1 S' H' cls dd (x.weak fun _ z => (own_nil z).elim) q
    | stuck => rw [hmd] at P1; exact P1.elim
end
end SW

set_option maxRecDepth 100000
/-! SW30: an instance is made; its attributes are stored; a call that borrows what a name owns. -/
namespace SW
open PySem PySem.Spec PyProof.Rows L2
section
variable {X : Cx} {W : WX} {L : Lc} {os os1 os2 : Os} {e o : Expr} {es : List Expr} {f : Str} {fe : Rho → Out (D × Rho)} {g : Rho → Out (List D × Rho)} {pos apos p : Pos} {c m x : Str} {C fa : Addr} {fd : FuncData} {ps : List Str} {k kk : Nat} {r : Bool} {sp : Sp} {E : L2.St → XK} {ta : TE} {t : TA}
theorem run_makeE {CX : CXT} {EE : XK} {pins : List (Addr × Obj)} {σ : L2.St} {H : Hp} {s : Shared} {Q : VK} {us : List Value} {vs : List V} (M : Mk X.K C fa) (F : FnOk X.prog X.w X.K X.mg X.base CX k fa fd ps sp) (hr : Room (k + 1) X.A) (hb : Binds X.K fd ps [])
    (hx : PassesAt CX X σ EE) (I : Inv X pins σ H s) (r : Vals vs us)
    (h : ∀ x dx, H x = none → H dx = none → dx ≠ x → sp (.ref x :: vs) (upd (upd H dx (.own x)) x (.ins C dx [])) (fun v H2 => v = .non ∧ Q (.ref x) H2) EE) :
    wpAny (model X.prog X.w) X.A (call (.ref C) us) (EP X pins σ Q) X.xe s := by
  have hq := h (s.heap.objs.size + 1) s.heap.objs.size (I.hok.fresh (Nat.le_succ _)) (I.hok.fresh (Nat.le_refl _)) (Nat.ne_of_lt (Nat.lt_succ_self _))
  have I2 := Inv.made (C := C) I
  have r2 : Vals (V.ref (s.heap.objs.size + 1) :: vs) (Value.ref (s.heap.objs.size + 1) :: us) := .cons rfl r
  have hl : (Value.ref (s.heap.objs.size + 1) :: us).length = ps.length := by
    have e := r2.length
    rw [F.len _ _ _ _ hq] at e
    exact e.symm
  have b := hb _ (Value.ref (s.heap.objs.size + 1) :: us) I2.kIn (by rw [List.append_nil]; exact hl)
  rw [List.append_nil] at b
  refine wpAny_call (make_map (f := fa) I.kIn M.makes M.init (beq_iff_eq.mp M.fn) (codeAny_mono (F.run _ X.stack _ _ ⟨Value.ref (s.heap.objs.size + 1) :: us, []⟩ (Value.ref (s.heap.objs.size + 1) :: us) _ _ EE (hr.make C us [])
    (I2.env0.make C us []) b r2 hq) fun r s' hq' => ?_))
  cases r with
  | error e => exact hx pins _ _ e s' I2 hq'
  | ok fl =>
    cases fl with
    | ret u =>
      obtain ⟨v, H', I3, rv, ev, q3⟩ := I2.after hq'
      subst ev
      exact ⟨rv, ⟨V.ref (s.heap.objs.size + 1), H', I3, rfl, q3⟩⟩
    | next => exact False.elim hq'
    | brk => exact False.elim hq'
    | cont => exact False.elim hq'
def tMakeE (C : Addr) (sp : Sp) (E : L2.St → XK) (t : TA) : TE := fun σ H Q => t σ H fun vs H1 => ∀ x dx, H1 x = none → H1 dx = none → dx ≠ x →
  sp (.ref x :: vs) (upd (upd H1 dx (.own x)) x (.ins C dx [])) (fun v H2 => v = .non ∧ Q (.ref x) H2) (E σ)
theorem pe_makeE {CX : CXT} (M : Mk X.K C fa) (F : FnOk X.prog X.w X.K X.mg X.base CX k fa fd ps sp) (hr : Room (k + 1) X.A) (hg : Gl X x) (hm : X.mg x = some (.ref C)) (hb : Binds X.K fd ps []) (hx : ∀ σ, PassesAt CX X σ (E σ))
    (ha : PA X (e :: es) t) (hdb : (x == ("__debug__" : Str)) = false := by decide) (he : starEach (e :: es) X.env = (false, eval e X.env) :: starEach es X.env := by rfl) (hpl : (backTo pos (starEach es X.env)).any (·.1) = false := by rfl) :
    PE X (.Call (.Name x p) (e :: es) [] pos) (tMakeE C sp E t) := by
  refine ⟨fun pins s σ H Q I h => ?_⟩
  refine wpAny_Call_Name_kw (ld_glob I hg hm ?_ hdb)
  refine PySem.W.callWith_K (h₀ := X.base) I.ok.mod.kin M.kp (thn (ha.run pos pins s σ H _ I h) fun us s1 ⟨vs, H1, I1, r, q⟩ => ⟨I1.kIn, ?_⟩) he hpl
  exact run_makeE M F hr hb (hx σ) I1 r q
/-- C(..) -/
def eMake (c : Str) (m : List D → Out (D × D)) (g : Rho → Out (List D × Rho)) : Rho → Out (D × Rho) := fun ρ => (g ρ).bind fun p => (m (.ins c [] :: p.1)).bind fun q => match q.1 with
  | .non => .ok (q.2, p.2)
  | _ => .stuck
theorem ve_make {mm : List D → Out (D × D)} (Fc : ClsF X.K X.mg c C) (M : Mk X.K C fa) (F : FnOk X.prog X.w X.K X.mg X.base (L2.CX X.prog X.w) kk fa fd ps (spec X.K X.mg (es.length + 2) (some 0) false mm)) (tk : Takes X W)
    (hr : Room (kk + 1) X.A) (hb : Binds X.K fd ps []) (ha : VA X W os (e :: es) g os1) (hg : Gl X c := by rfl) (hdb : (c == ("__debug__" : Str)) = false := by decide)
    (he : starEach (e :: es) X.env = (false, eval e X.env) :: starEach es X.env := by rfl) (hpl : (backTo pos (starEach es X.env)).any (·.1) = false := by rfl) :
    VE X W os (.Call (.Name c p) (e :: es) [] pos) (eMake c mm g) os1 true := by
  obtain ⟨ta, pa, ka⟩ := ha
  refine ⟨_, pe_makeE M F hr hg Fc.g hb (fun σ => passAt tk σ) pa hdb he hpl, fun S σ H ρ Q rel P => ?_⟩
  refine ka S σ H ρ _ rel (Post.seq P (fun z => z) (fun c fs p => p) fun ds ρ1 vs S1 H1 st1 rel1 q1 P1 => ?_)
  replace P1 := P1.step RV.ok st1
  dsimp only at P1
  intro x dx nx ndx hne
  have nS : ∀ b, H1 b = none → S1 b = none := fun b hb => by
    cases q : S1 b with
    | none => rfl
    | some o => rw [rel1.sub b o q] at hb; cases hb
  have xa : Ext (fun _ => False) S1 H1 (upd S1 dx (.own x)) (upd H1 dx (.own x)) := Ext.new rel1.sub ndx
  have hx1 : (upd H1 dx (.own x)) x = none := by rw [upd_ne (fun z => hne z.symm)]; exact nx
  have xb : Ext (fun _ => False) (upd S1 dx (.own x)) (upd H1 dx (.own x)) (upd S1 dx (.own x)) (upd (upd H1 dx (.own x)) x (.ins C dx [])) := Ext.newO xa.sh hx1
  have x0 := xa.trans xb fun _ z => z.elim
  have nx0 : (upd S1 dx (.own x)) x = none := by rw [upd_ne (fun z => hne z.symm)]; exact nS x nx
  have hown : ∀ a, Own (osP (some 0)) ((V.ref x :: vs).map some) a → a = x := fun a ⟨j, h1, h2⟩ => by
    have hj := osP_get.mp h1
    subst hj
    simpa using h2.symm
  refine ⟨by rw [List.length_cons, q1.1.length, q1.2]; rfl, upd S1 dx (.own x), .ins c [] :: ds, ⟨x0.sh, by simp [q1.1.length], fun j y z e1 e2 => ?_, fun j j' a h1 h2 _ _ => by rw [osP_get.mp h1, osP_get.mp h2]⟩, ?_⟩
  · cases j with
    | zero =>
      have e1 : some (V.ref x) = y := by simpa using e1
      have e2 : some (D.ins c []) = z := by simpa using e2
      subst e1; subst e2
      rw [osP_get.mpr rfl]
      exact ⟨x, rfl, nx0, _, upd_same, .ins Fc.n upd_same rfl .nil⟩
    | succ j =>
      have hf : (osP (some 0)).getD (j + 1) false = false := by
        cases h : (osP (some 0)).getD (j + 1) false
        · rfl
        · exact absurd (osP_get.mp h) (by omega)
      rw [hf]
      rw [List.map_cons, List.getElem?_cons_succ, List.getElem?_map] at e1 e2
      cases ed : ds[j]? with
      | none => rw [ed] at e2; cases e2
      | some d' =>
        obtain ⟨v, ev, hat⟩ := q1.1.get ed
        rw [ed] at e2; rw [ev] at e1
        cases e1; cases e2
        exact hat.mono x0.s
  · cases hmd : mm (.ins c [] :: ds) with
    | ok z =>
      rw [hmd] at P1
      rw [bind_ok] at P1
      intro v S' H' x' q qo
      have qo := qo 0 (.ref x) rfl rfl
      obtain ⟨z1, z2⟩ := z
      have hz : z1 = .non := by
        cases z1 with
        | non => rfl
        | _ => exact P1.elim
      subst hz
      have ev : v = .non := by cases (show At X.K S' v .non from q); rfl
      refine ⟨ev, ?_⟩
      have xc : Ext (Own os1 σ) S1 H1 S' H' := (x0.weak fun _ z => z.elim).trans x' fun a h => .inr (by rw [hown a h]; exact nx)
      refine P1 (.ref x) S' H' ⟨xc, fun _ q => .inl q⟩ (rel1.grow (O := fun a => a = x) ((x0.weak fun _ z => z.elim).trans x' fun a h => .inl (hown a h)) fun a h z => ?_) ⟨qo, fun a ea => by cases ea; exact nx⟩
      obtain ⟨_, o, eo⟩ := rel1.owned h
      rw [z, nx] at eo
      cases eo
    | exc c' fs =>
      rw [hmd] at P1
      exact fun S' H' cls dd x' q => P1 S' H' cls dd ((x0.weak fun _ z => z.elim).trans x' fun a h => .inr (by rw [hown a h]; exact nx)) q
    | stuck => rw [hmd] at P1; exact P1.elim

/-! ### an attribute is stored -/
def sFldD (i : Nat) (c f : Str) (fe : Rho → Out (D × Rho)) : Rho → Out Fl := fun ρ => (fe ρ).bind fun p => match p.2.getD i none with
  | some (.ins c' fs) => if c' = c ∧ fs.length < 1000 then .ok (.nx (p.2.set i (some (.ins c' (putFD f p.1 fs))))) else .stuck
  | _ => .stuck
theorem vs_fld (i : Nat) {y : Str} (Fc : ClsF X.K X.mg c C) (na : NoAttr X.K C f) (he : VE X W os e fe os1 false) (hN : X.N[i]? = some y := by rfl) (hv : Vis X.env.scope y := by first | exact Or.inl rfl | exact Or.inr (Or.inl rfl) | exact Or.inr (Or.inr rfl)) (ho : os1.getD i false = true := by rfl) {p0 : Pos}
    (hs : swapsWith e (some (.Attribute (.Name y p0) f p)) pos.line X.env = pure false := by rfl) (hd : (y == ("__debug__" : Str)) = false := by decide) (hcd : (y == ("__classdict__" : Str)) = false := by decide) :
    VS X W L os (.Assign [.Attribute (.Name y p0) f p] e pos) (sFldD i c f fe) os1 := by
  obtain ⟨t, pt, kt⟩ := he
  refine ⟨_, ps_fld (pe_var hN hv hd hcd) pt hs, fun S σ H ρ Ds rel P => ?_⟩
  refine kt S σ H ρ _ rel (PostS.seqE P fun d ρ1 v S1 H1 s1 r1 q1 P1 => ?_)
  dsimp only at P1
  cases hd : ρ1.getD i none with
  | none => rw [hd] at P1; exact P1.elim
  | some d0 =>
    rw [hd] at P1
    have e1 : ρ1[i]? = some (some d0) := by
      cases q : ρ1[i]? with
      | none => simp [List.getD, q] at hd
      | some y => simp [List.getD, q] at hd; rw [hd]
    obtain ⟨u, eu, a, ea, nS, ob, eb, bd⟩ := r1.own e1 ho
    subst ea
    cases d0 with
    | ins c' fs =>
      dsimp only at P1
      split at P1
      · rename_i hc
        obtain ⟨ec, hl⟩ := hc
        subst ec
        cases bd with
        | ins hc hd' hq hr =>
          rename_i C' dx fv
          rw [Fc.n] at hc
          cases hc
          have lf : fv.length < 1000 := by
            have := congrArg List.length hq
            rw [List.length_map, List.length_map] at this
            omega
          refine ⟨.ref a, eu, a, C, dx, fv, rfl, eb, Fc.cl, na, lf, ?_⟩
          have st := Stp.turn (o := HO.ins C dx (putF f v fv)) r1 ho eu
          refine P1 σ S1 _ st FixOn.refl (r1.turn ho eu ⟨a, rfl, nS, _, upd_same, .ins Fc.n hd' (putF_names hq) (putF_at q1 hq hr)⟩)
      · exact P1.elim
    | _ => exact P1.elim
end
end SW

set_option maxRecDepth 100000
/-! SW31: a call that borrows an owned instance. -/
namespace SW
open PySem PySem.Spec PyProof.Rows L2
mutual
/-- lists and tuples of flat data -/
def flatB : D → Bool
  | .non => true
  | .bl _ => true
  | .int _ => true
  | .str _ => true
  | .tup xs => flatBs xs
  | .lst xs => flatBs xs
  | .dct _ => false
  | .ins _ _ => false
  | .exc _ _ => false
  | .scr _ => false
  | .ty _ => false
def flatBs : List D → Bool
  | [] => true
  | x :: xs => flatB x && flatBs xs
end
def cut (S : Hp) (a : Addr) : Hp := fun b => if b = a then none else S b
theorem cut_ne {S : Hp} {a b : Addr} (h : b ≠ a) : cut S a b = S b := by unfold cut; rw [if_neg h]
theorem cut_same {S : Hp} {a : Addr} : cut S a a = none := by unfold cut; rw [if_pos rfl]
section
variable {K : PySem.W.Frag} {S : Hp} {a C dx : Addr} {fv : List (Str × V)}
theorem sqT_cut {b : Addr} {xs : List V} (h : S a = some (.ins C dx fv)) (q : SqT K S b xs) : SqT K (cut S a) b xs := by
  rcases q with (q | ⟨o, q⟩) | q
  · exact .inl (.inl (by rw [cut_ne (fun z => by rw [z, h] at q; cases q)]; exact q))
  · exact .inl (.inr ⟨o, by rw [cut_ne (fun z => by rw [z, h] at q; cases q)]; exact q⟩)
  · exact .inr q
mutual
theorem At.cut_ (h : S a = some (.ins C dx fv)) : ∀ {v : V} {d : D}, At K S v d → flatB d = true → At K (cut S a) v d
  | _, _, .non, _ => .non
  | _, _, .bl b, _ => .bl b
  | _, _, .int i, _ => .int i
  | _, _, .str x, _ => .str x
  | _, _, .tup q z r, e => .tup (sqT_cut h q) z (AtL.cut_ h r (by unfold flatB at e; exact e))
  | _, _, .lst q z r, e => .lst (by rw [cut_ne (fun z => by rw [z, h] at q; cases q)]; exact q) z (AtL.cut_ h r (by unfold flatB at e; exact e))
  | _, _, .dct _ _ _ _, e => by unfold flatB at e; cases e
  | _, _, .ins _ _ _ _ _, e => by unfold flatB at e; cases e
  | _, _, .exc0 _ _, e => by unfold flatB at e; cases e
  | _, _, .exc1 _ _ _ _, e => by unfold flatB at e; cases e
  | _, _, .scr _ _, e => by unfold flatB at e; cases e
  | _, _, .ty _ _, e => by unfold flatB at e; cases e
theorem AtL.cut_ (h : S a = some (.ins C dx fv)) : ∀ {vs : List V} {ds : List D}, AtL K S vs ds → flatBs ds = true → AtL K (cut S a) vs ds
  | _, _, .nil, _ => .nil
  | _, _, .cons q r, e => by
    unfold flatBs at e
    obtain ⟨e1, e2⟩ := Bool.and_eq_true_iff.mp e
    exact .cons (At.cut_ h q e1) (AtL.cut_ h r e2)
end
end
/-- m of what slot i owns, which it owns still -/
def eBorrow (m : List D → Out (D × D)) (i : Nat) : Rho → Out (D × Rho) := fun ρ => match ρ.getD i none with
  | some (.ins c fs) => (m [.ins c fs]).bind fun q => if flatB q.1 = true then .ok (q.1, ρ) else .stuck
  | _ => .stuck
section
variable {X : Cx} {W : WX} {os : Os} {pos p p0 : Pos} {k kk : Nat} {fa : Addr} {fd : FuncData} {ps : List Str}
theorem ve_borrow {x y : Str} {mm : List D → Out (D × D)} (i : Nat) (F : FnOk X.prog X.w X.K X.mg X.base (L2.CX X.prog X.w) kk fa fd ps (spec X.K X.mg 1 none false mm)) (tk : Takes X W)
    (hr : Room kk X.A) (hm : X.mg x = some (.ref fa)) (hk : PySem.W.keepIn X.K (.ref fa) = true) (hb : Binds X.K fd ps [])
    (ho : os.getD i false = true := by rfl) (hN : X.N[i]? = some y := by rfl) (hv : Vis X.env.scope y := by first | exact Or.inl rfl | exact Or.inr (Or.inl rfl) | exact Or.inr (Or.inr rfl))
    (hd : (y == ("__debug__" : Str)) = false := by decide) (hcd : (y == ("__classdict__" : Str)) = false := by decide) (hs : starEach [.Name y p0] X.env = (false, eval (.Name y p0) X.env) :: starEach [] X.env := by rfl)
    (hg : Gl X x := by rfl) (hdb : (x == ("__debug__" : Str)) = false := by decide)
    (hpl : (backTo pos (starEach [] X.env)).any (·.1) = false := by rfl) :
    VE X W os (.Call (.Name x p) [.Name y p0] [] pos) (eBorrow mm i) os false := by
  refine ⟨_, pe_callS F hr hg hm hk hb (fun σ => passAt tk σ) (pa_cons (pe_var hN hv hd hcd) pa_nil hs) hdb hs hpl, fun S σ H ρ Q rel P => ?_⟩
  unfold eBorrow at P
  cases h : ρ.getD i none with
  | none => rw [h] at P; exact P.elim
  | some d =>
    rw [h] at P
    have e : ρ[i]? = some (some d) := by
      cases q : ρ[i]? with
      | none => simp [List.getD, q] at h
      | some y => simp [List.getD, q] at h; rw [h]
    obtain ⟨v, ev, a, ea, nS, ob, eb, bd⟩ := rel.own e ho
    subst ea
    cases d with
    | ins c fs =>
      dsimp only at P
      have sm : Same S (upd S a ob) := fun b x e => by
        have hb : b ≠ a := fun z => by rw [z, nS] at e; cases e
        rw [upd_ne hb]; exact e
      have sh : Same (upd S a ob) H := fun b x e => by
        by_cases hb : b = a
        · subst hb; rw [upd_same] at e; rw [eb]; exact e
        · rw [upd_ne hb] at e; exact rel.sub b x e
      have at0 : At X.K (upd S a ob) (.ref a) (.ins c fs) := (bd.mono sm).at upd_same
      refine ⟨.ref a, ev, rfl, upd S a ob, [.ins c fs], rel_args (.cons at0 .nil) sh, ?_⟩
      have back : ∀ {S' H' : Hp}, Ext (fun _ => False) (upd S a ob) H S' H' → S' a = some ob ∧ Ext (fun _ => False) S H (cut S' a) H' := fun {S' H'} x => by
        have ha : S' a = some ob := x.s _ _ upd_same
        refine ⟨ha, fun b o e => ?_, fun b o e => ?_, fun b o e nb _ => ?_, x.there⟩
        · have hb : b ≠ a := fun z => by rw [z, nS] at e; cases e
          rw [cut_ne hb]; exact x.s _ _ (sm _ _ e)
        · by_cases hb : b = a
          · rw [hb, cut_same] at e; cases e
          · rw [cut_ne hb] at e; exact x.sh _ _ e
        · by_cases hb : b = a
          · subst hb
            rw [eb] at e; cases e
            exact ⟨x.sh _ _ ha, cut_same⟩
          · obtain ⟨e1, e2⟩ := x.fr b o e (by rw [upd_ne hb]; exact nb) (fun z => z)
            exact ⟨e1, by rw [cut_ne hb]; exact e2⟩
      cases hmd : mm [.ins c fs] with
      | ok z =>
        rw [hmd, bind_ok] at P
        split at P
        · rename_i hfl
          intro v S' H' x q _
          have x' : Ext (fun _ => False) (upd S a ob) H S' H' := x.weak fun _ z => own_nil z
          obtain ⟨ha, xc⟩ := back x'
          cases bd with
          | ins hc hd' hq hr =>
            exact P v (cut S' a) H' (Stp.of_ext xc) (rel.ext0 xc) (At.cut_ ha (show At X.K S' v z.1 from q) hfl)
        · exact P.elim
      | exc c' fs' =>
        rw [hmd] at P
        intro S' H' cls dd x q
        have x' : Ext (fun _ => False) (upd S a ob) H S' H' := x.weak fun _ z => own_nil z
        obtain ⟨ha, xc⟩ := back x'
        refine P S' H' cls dd ?_ q
        refine ⟨sm.trans x.s, x.sh, fun b o e nb no => ?_, x.there⟩
        have hb : b ≠ a := fun z => no ⟨i, ho, by rw [z]; exact ev⟩
        exact x'.fr b o e (by rw [upd_ne hb]; exact nb) fun z => z
      | stuck => rw [hmd] at P; exact P.elim
    | _ => exact P.elim
end
end SW

set_option maxRecDepth 100000
/-! SW32: chains of three comparisons; errors with a field: raise C(e), isinstance, err.f. -/
namespace SW
open PySem PySem.Spec PyProof.Rows L2
section
variable {X : Cx} {W : WX} {L : Lc} {os os1 os2 : Os} {e e1 e2 e3 e4 ec : Expr} {f f1 f2 f3 f4 : Rho → Out (D × Rho)} {pos p cp : Pos} {a b c d : Expr} {ta tb tc td : TE}
/-! ### a op1 b op2 c op3 d -/
def tChain3 (r r' r'' : R2) (ta tb tc td : TE) : TE := fun σ H Q => ta σ H fun x H1 => tb σ H1 fun y H2 => r x y H2 fun z H3 => ∃ k, z = .bl k ∧
  (if k = true then tc σ H3 fun w' H4 => r' y w' H4 fun z' H5 => ∃ k', z' = .bl k' ∧ (if k' = true then td σ H5 fun u' H6 => r'' w' u' H6 Q else Q (.bl false) H5) else Q (.bl false) H3)
theorem pe_chain3 {op op' op'' : CmpOp} {r r' r'' : R2} (ho : OpR X (compareOp op) r) (ho' : OpR X (compareOp op') r') (ho'' : OpR X (compareOp op'') r'') (ha : PE X a ta) (hb : PE X b tb) (hc : PE X c tc) (hd : PE X d td)
    (hm : lastMarks [op, op', op''] [b, c, d] = false := by with_unfolding_all rfl) : PE X (.Compare a [op, op', op''] [b, c, d] pos) (tChain3 r r' r'' ta tb tc td) := by
  refine ⟨fun pins s σ H Q I h => ?_⟩
  refine Compare_chain (thn (ha.run pins s σ H _ I h) fun v s1 ⟨x, H1, I1, r1, q1⟩ => chain_link (thn (hb.run pins s1 σ H1 _ I1 q1) fun u s2 ⟨y, H2, I2, r2, q2⟩ =>
    thn (ho pins s2 σ H2 x y v u _ I2 r1 r2 q2) fun d s3 ⟨z, H3, I3, r3, k, e, q3⟩ => ?_)) hm
  subst e
  cases r3
  refine wpAny_truthy_bool ?_
  cases k with
  | false => exact ite_ff ⟨.bl false, H3, I3, rfl, q3⟩
  | true =>
    refine ite_tt (chain_link (thn (hc.run pins s3 σ H3 _ I3 q3) fun w' s4 ⟨z', H4, I4, r4, q4⟩ => thn (ho' pins s4 σ H4 y z' u w' _ I4 r2 r4 q4) fun d' s5 ⟨z5, H5, I5, r5, k', e', q5⟩ => ?_))
    subst e'
    cases r5
    refine wpAny_truthy_bool ?_
    cases k' with
    | false => exact ite_ff ⟨.bl false, H5, I5, rfl, q5⟩
    | true => exact ite_tt (chain_last (thn (hd.run pins s5 σ H5 _ I5 q5) fun u6 s6 ⟨y6, H6, I6, r6, q6⟩ => ho'' pins s6 σ H6 z' y6 w' u6 Q I6 r4 r6 q6))
theorem pt_chain3 {op op' op'' : CmpOp} {r r' r'' : R2} (ho : OpR X (compareOp op) r) (ho' : OpR X (compareOp op') r') (ho'' : OpR X (compareOp op'') r'') (ha : PE X a ta) (hb : PE X b tb) (hc : PE X c tc) (hd : PE X d td)
    (hm : lastMarks [op, op', op''] [b, c, d] = false := by with_unfolding_all rfl) : PT X (.Compare a [op, op', op''] [b, c, d] pos) (tTest (tChain3 r r' r'' ta tb tc td)) := by
  refine ⟨fun pins s σ H Q I h => ?_⟩
  refine isTrue_chain (thn (ha.run pins s σ H _ I h) fun v s1 ⟨x, H1, I1, r1, q1⟩ => test_link (thn (hb.run pins s1 σ H1 _ I1 q1) fun u s2 ⟨y, H2, I2, r2, q2⟩ =>
    thn (ho pins s2 σ H2 x y v u _ I2 r1 r2 q2) fun d s3 ⟨z, H3, I3, r3, k, e, q3⟩ => ?_)) hm
  subst e
  cases r3
  refine wpAny_truthy_bool ?_
  cases k with
  | false =>
    obtain ⟨k', e', q'⟩ := q3
    cases e'
    exact ite_ff ⟨H3, I3, q'⟩
  | true =>
    refine ite_tt (test_link (thn (hc.run pins s3 σ H3 _ I3 q3) fun w' s4 ⟨z', H4, I4, r4, q4⟩ => thn (ho' pins s4 σ H4 y z' u w' _ I4 r2 r4 q4) fun d' s5 ⟨z5, H5, I5, r5, k', e', q5⟩ => ?_))
    subst e'
    cases r5
    refine wpAny_truthy_bool ?_
    cases k' with
    | false =>
      obtain ⟨k6, e6, q6⟩ := q5
      cases e6
      exact ite_ff ⟨H5, I5, q6⟩
    | true =>
      refine ite_tt (test_last (thn (hd.run pins s5 σ H5 _ I5 q5) fun u6 s6 ⟨y6, H6, I6, r6, q6⟩ => thn (ho'' pins s6 σ H6 z' y6 w' u6 _ I6 r4 r6 q6) fun d7 s7 ⟨z7, H7, I7, r7, k7, e7, q7⟩ => ?_))
      subst e7
      cases r7
      exact wpAny_truthy_bool ⟨H7, I7, q7⟩
def eChain3 (g g' g'' : D → D → Option D) (f1 f2 f3 f4 : Rho → Out (D × Rho)) : Rho → Out (D × Rho) := fun ρ =>
  (f1 ρ).bind fun p => (f2 p.2).bind fun q => (Out.of (g p.1 q.1)).bind fun c => match c with
    | .bl true => (f3 q.2).bind fun r => (Out.of (g' q.1 r.1)).bind fun c2 => match c2 with
      | .bl true => (f4 r.2).bind fun t => (Out.of (g'' r.1 t.1)).bind fun c3 => .ok (c3, t.2)
      | .bl false => .ok (.bl false, r.2)
      | _ => .stuck
    | .bl false => .ok (.bl false, q.2)
    | _ => .stuck
theorem chain3_both {op op' op'' : CmpOp} {g g' g'' : D → D → Option D} (ho : Op2 X (compareOp op) g) (ho' : Op2 X (compareOp op') g') (ho'' : Op2 X (compareOp op'') g'') (ha : VE X W os e1 f1 os1 false) (hb : VE X W os1 e2 f2 os2 false) (hc : VE X W os2 e3 f3 os2 false) (hd : VE X W os2 e4 f4 os2 false)
    (hm : lastMarks [op, op', op''] [e2, e3, e4] = false := by with_unfolding_all rfl) : ∃ t, PE X (.Compare e1 [op, op', op''] [e2, e3, e4] pos) t ∧ PT X (.Compare e1 [op, op', op''] [e2, e3, e4] pos) (tTest t) ∧
    ∀ S σ H ρ Q, Rel X.K S H os σ ρ → Post X W S H os σ os2 (RV X.K false) Q (eChain3 g g' g'' f1 f2 f3 f4 ρ) → t σ H Q := by
  obtain ⟨ta, pa, ka⟩ := ha
  obtain ⟨tb, pb, kb⟩ := hb
  obtain ⟨tc, pc, kc⟩ := hc
  obtain ⟨td, pd, kd⟩ := hd
  obtain ⟨rr, po, ko⟩ := ho
  obtain ⟨rr', po', ko'⟩ := ho'
  obtain ⟨rr'', po'', ko''⟩ := ho''
  refine ⟨_, pe_chain3 po po' po'' pa pb pc pd hm, pt_chain3 po po' po'' pa pb pc pd hm, fun S σ H ρ Q rel P => ?_⟩
  refine ka S σ H ρ _ rel (Post.seq P (fun z => z) (fun c fs p => p) fun d ρ1 v S1 H1 st1 rel1 q1 P1 => ?_)
  replace P1 := P1.step RV.ok st1
  refine kb S1 σ H1 ρ1 _ rel1 (Post.seq P1 (fun z => z) (fun c fs p => p) fun d2 ρ2 v2 S2 H2 st2 rel2 q2 P2 => ?_)
  replace P2 := P2.step RV.ok st2
  dsimp only at P2
  cases hg : g d d2 with
  | none => rw [hg] at P2; exact P2.elim
  | some c =>
    rw [hg] at P2
    refine ko S2 H2 v v2 d d2 c _ rel2.sub (At.mono st2.ext.s q1) q2 hg fun z S3 H3 x hat => ?_
    have P3 := P2.step RV.ok (Stp.of_ext x)
    have rel3 := rel2.ext0 x
    cases hat with
    | bl b =>
      cases b with
      | true =>
        refine ⟨true, rfl, ?_⟩
        rw [if_pos rfl]
        refine kc S3 σ H3 ρ2 _ rel3 (Post.seq P3 (fun z => z) (fun c fs p => p) fun d3 ρ3 v3 S4 H4 st4 rel4 q4 P4 => ?_)
        replace P4 := P4.step RV.ok st4
        dsimp only at P4
        cases hg' : g' d2 d3 with
        | none => rw [hg'] at P4; exact P4.elim
        | some c2 =>
          rw [hg'] at P4
          refine ko' S4 H4 v2 v3 d2 d3 c2 _ rel4.sub (At.mono st4.ext.s (At.mono x.s q2)) q4 hg' fun z5 S5 H5 x5 hat5 => ?_
          have P5 := P4.step RV.ok (Stp.of_ext x5)
          have rel5 := rel4.ext0 x5
          cases hat5 with
          | bl b5 =>
            cases b5 with
            | true =>
              refine ⟨true, rfl, ?_⟩
              rw [if_pos rfl]
              refine kd S5 σ H5 ρ3 _ rel5 (Post.seq P5 (fun z => z) (fun c fs p => p) fun d6 ρ6 v6 S6 H6 st6 rel6 q6 P6 => ?_)
              obtain ⟨c3, hc3, k⟩ := post_of (P6.step RV.ok st6) rel6
              exact ko'' S6 H6 v3 v6 d3 d6 c3 _ rel6.sub (At.mono st6.ext.s (At.mono x5.s q4)) q6 hc3 k
            | false =>
              refine ⟨false, rfl, ?_⟩
              rw [if_neg Bool.false_ne_true]
              exact P5.fin (os' := os2) rel5 (.bl false)
          | _ => exact P5.elim
      | false =>
        refine ⟨false, rfl, ?_⟩
        rw [if_neg Bool.false_ne_true]
        exact P3.fin (os' := os2) rel3 (.bl false)
    | _ => exact P3.elim

theorem ve_chain3 {op op' op'' : CmpOp} {g g' g'' : D → D → Option D} (ho : Op2 X (compareOp op) g) (ho' : Op2 X (compareOp op') g') (ho'' : Op2 X (compareOp op'') g'') (ha : VE X W os e1 f1 os1 false) (hb : VE X W os1 e2 f2 os2 false) (hc : VE X W os2 e3 f3 os2 false) (hd : VE X W os2 e4 f4 os2 false)
    (hm : lastMarks [op, op', op''] [e2, e3, e4] = false := by with_unfolding_all rfl) : VE X W os (.Compare e1 [op, op', op''] [e2, e3, e4] pos) (eChain3 g g' g'' f1 f2 f3 f4) os2 false := by
  obtain ⟨t, p, _, k⟩ := chain3_both (pos := pos) ho ho' ho'' ha hb hc hd hm
  exact ⟨t, p, k⟩
theorem vt_chain3 {op op' op'' : CmpOp} {g g' g'' : D → D → Option D} (ho : Op2 X (compareOp op) g) (ho' : Op2 X (compareOp op') g') (ho'' : Op2 X (compareOp op'') g'') (ha : VE X W os e1 f1 os1 false) (hb : VE X W os1 e2 f2 os2 false) (hc : VE X W os2 e3 f3 os2 false) (hd : VE X W os2 e4 f4 os2 false)
    (hm : lastMarks [op, op', op''] [e2, e3, e4] = false := by with_unfolding_all rfl) : VT X W os (.Compare e1 [op, op', op''] [e2, e3, e4] pos) (tVal (eChain3 g g' g'' f1 f2 f3 f4)) os2 := by
  obtain ⟨t, _, p, k⟩ := chain3_both (pos := pos) ho ho' ho'' ha hb hc hd hm
  refine ⟨_, p, fun S σ H ρ Q rel P => ?_⟩
  refine k S σ H ρ _ rel (Post.seq P (fun z => z) (fun c fs p => p) fun d ρ1 v S1 H1 st1 rel1 q1 P1 => ?_)
  cases q1 with
  | bl b => exact ⟨b, rfl, (P1.step RB.ok st1).fin (os' := os2) rel1 rfl⟩
  | _ => exact P1.elim
/-! ### raise C(e) -/
/-- the promise of an error's __init__(self, f): self.f = f -/
def specX (K : PySem.W.Frag) (C : Addr) (f : Str) : Sp := fun vs H Q _ => ∃ a v, vs = [.ref a, v] ∧ H a = some (exo a C none) ∧ ∀ dx, H dx = none → dx ≠ a → Q .non (upd (upd H dx (exd dx [(f, v)])) a (exo a C (some dx)))
/-- what is known of an error's class with a field -/
structure ErF (K : PySem.W.Frag) (mg : Str → Option Value) (c f : Str) (C fa : Addr) : Prop where
  g : mg c = some (.ref C)
  n : PySem.W.nsIn K mainGlobals c = some (some (.ref C))
  t : OexC K C
  i : PySem.W.findIn K (.ref C) "__init__" = some (some (.ref fa))
  ft : PySem.W.typeIn K (.ref fa) = some (.type "function")
  no : PySem.W.findIn K (.ref C) f = some none
def sRaise1 (c f : Str) (fe : Rho → Out (D × Rho)) : Rho → Out Fl := fun ρ => (fe ρ).bind fun p => .exc c (some (f, p.1))
theorem nn_raise1 (c f : Str) (fe : Rho → Out (D × Rho)) : NoNx (sRaise1 c f fe) := fun ρ ρ' e => by
  unfold sRaise1 at e
  cases h : fe ρ <;> rw [h] at e <;> cases e
theorem passes_no : Passes (L2.CX X.prog X.w) X (fun _ _ _ => False) := fun _ _ _ _ _ _ _ c => by
  obtain ⟨_, _, _, _, _, _, _, _, _, _, _, _, z⟩ := c
  exact z.elim
theorem vs_raise1 {c fn : Str} {C fa : Addr} {fd : FuncData} {ps : List Str} {k : Nat} (F : ErF X.K X.mg c fn C fa) (G : FnOk X.prog X.w X.K X.mg X.base (L2.CX X.prog X.w) k fa fd ps (specX X.K C fn)) (tk : Takes X W) (hr : Room (k + 1) X.A) (hb : Binds X.K fd ps [])
    (he : VE X W os e f os1 false) (hg : Gl X c := by rfl) (hc : X.calm = true := by rfl) (hdb : (c == ("__debug__" : Str)) = false := by decide)
    (hs : starEach [e] X.env = (false, eval e X.env) :: starEach [] X.env := by rfl) (hpl : (backTo cp (starEach [] X.env)).any (·.1) = false := by rfl) :
    VS X W L os (.Raise (some (.Call (.Name c p) [e] [] cp)) none pos) (sRaise1 c fn f) os2 := by
  obtain ⟨t, pt, kt⟩ := he
  refine ⟨_, ps_raise hc tk (pmk_oex F.t F.i F.ft G hr hb (dvs := []) .nil passes_no hg F.g (pa_cons pt pa_nil hs) hdb hs hpl), fun S σ H ρ Ds rel P => ?_⟩
  refine kt S σ H ρ _ rel (PostS.seqE P fun d ρ1 v S1 H1 s1 r1 q1 P1 => ?_)
  refine ⟨(by show 1 ≤ 1000; decide), fun a na => ⟨a, v, rfl, upd_same, fun dx ndx hne => ⟨rfl, dx, [(fn, v)], upd_same, by rw [upd_ne hne, upd_same], ?_, ?_⟩⟩⟩
  · rwa [upd_ne hne] at ndx
  · have nd : H1 dx = none := by rwa [upd_ne hne] at ndx
    have eH : upd (del (upd (upd (upd H1 a (exo a C none)) dx (exd dx [(fn, v)])) a (exo a C (some dx))) a) dx (.xd [(fn, v)]) = upd H1 dx (.xd [(fn, v)]) := by
      funext b
      by_cases hb : b = dx
      · rw [hb, upd_same, upd_same]
      · rw [upd_ne hb, upd_ne hb]
        by_cases ha : b = a
        · rw [ha, del_same, na]
        · rw [del_ne ha, upd_ne ha, upd_ne hb, upd_ne ha]
    rw [eH]
    have x : Ext (fun _ => False) S1 H1 (upd S1 dx (.xd [(fn, v)])) (upd H1 dx (.xd [(fn, v)])) := Ext.new r1.sub nd
    exact P1 σ _ _ (.ref C) (some dx) (x.weak fun _ z => z.elim) ⟨F.g, dx, v, rfl, upd_same, At.mono x.s q1⟩
end
end SW

set_option maxRecDepth 100000
/-! SW33: errors with a field: their __init__, isinstance, err.f. -/
namespace SW
open PySem PySem.Spec PyProof.Rows L2
section
variable {P : Program} {w : World} {K : PySem.W.Frag} {mg : Str → Option Value} {base : Heap}
/-- def __init__(self, f): self.f = f -/
theorem okx {qual fn : Str} {st : Stmt} {C fa : Addr} {fd : FuncData} {p1 p2 p3 p4 : Pos} (F : Fun K "__init__" qual st fa fd) (Sc : FnScope ["self", fn] ["self", fn] (defScope st)) (T : OexC K C) (no : PySem.W.findIn K (.ref C) fn = some none)
    (hb : defBody st = [.Assign [.Attribute (.Name "self" p1) fn p2] (.Name fn p3) p4]) (hv1 : Vis (defScope st) "self") (hv2 : Vis (defScope st) fn)
    (hd : (fn == ("__debug__" : Str)) = false := by decide) (hcd : (fn == ("__classdict__" : Str)) = false := by decide) :
    FnOk P w K mg base (L2.CX P w) 1 fa fd ["self", fn] (specX K C fn) := by
  refine Fun.okX F Sc (fun vs H Q E h => by obtain ⟨a, v, rfl, _⟩ := h; rfl) (fun cdv A outer s H vs Q E hr h => ?_)
  obtain ⟨a, v, rfl, ha, k⟩ := h
  rw [hb]
  refine ⟨_, pss_one (ps_ost (pe_var (i := 0) rfl hv1 (by decide) (by decide)) (pe_var (i := 1) rfl hv2 hd hcd)), ?_⟩
  exact ⟨v, rfl, .ref a, rfl, a, C, rfl, T, no, .inl ⟨ha, fun dx n ne => k dx n ne⟩⟩
end
section
variable {X : Cx} {W : WX} {os os1 os2 : Os} {e ec e2 : Expr} {f f2 : Rho → Out (D × Rho)} {pos p : Pos}
/-- isinstance of an error that is kept -/
def rIsY (K : PySem.W.Frag) : List V → Hp → VK → Prop := fun xs H Q => ∃ (a C : Addr) (dd : Option Addr) (t : V) (tv : Value) (b : Bool), xs = [.ref a, t] ∧ H a = some (ExT (.ref C) dd a) ∧ (∀ d, dd = some d → ∃ fs, H d = some (.xd fs)) ∧ ExcC K C ∧ (∀ u, RelV t u → u = tv) ∧ PySem.W.kitOne K (.ref C) tv = some b ∧ Q (.bl b) H
theorem inst_exc {K : PySem.W.Frag} {pins : List (Addr × Obj)} {σ : L2.St} {H : Hp} {s : Shared} {a C : Addr} {dd : Option Addr} (I : Inv X pins σ H s) (hH : H a = some (ExT (.ref C) dd a)) (hd : ∀ d, dd = some d → ∃ fs, H d = some (.xd fs)) : ∃ oe od, PySem.W.InstAt s.heap a oe C od := by
  obtain ⟨⟨oe, vs, hget, hz, hv⟩, -, -⟩ := I.hok a _ hH
  cases dd with
  | none =>
    refine ⟨oe, none, ?_⟩
    obtain ⟨k1, k2, k3, k4⟩ := oe
    obtain ⟨h1, h2⟩ := hz
    dsimp only at h1 h2 hv
    subst h1 h2 hv
    exact ⟨hget, rfl, rfl, trivial⟩
  | some d =>
    obtain ⟨fs, ea⟩ := hd d rfl
    have hx : ObjOk X.prog X.w H s.heap d (.xd fs) := I.hok d _ ea
    obtain ⟨mA, hns, hr⟩ := hx
    obtain ⟨od, ho, hl⟩ := lookIn_ns hns
    exact ⟨oe, some od, hget, hz.1, by unfold PySem.W.notCls; rw [hv] <;> rfl, by rw [hz.2]; exact ho⟩
theorem call_isY : CallR X (.builtin "isinstance") (rIsY X.K) := by
  intro pins s σ H xs us Q I r h
  obtain ⟨a, C, dd, t, tv, b, rfl, hH, hdd, hC, ht, hk, q⟩ := h
  match us, r with
  | _, .cons ra (.cons rt .nil) =>
    cases ra
    have et := ht _ rt
    subst et
    obtain ⟨oe, od, J⟩ := inst_exc (K := X.K) I hH hdd
    have hcl : (PySem.W.clsIn X.K C).isSome = true := by
      obtain ⟨cd, hc, _⟩ := PySem.W.any_some hC.hd
      rw [hc]; rfl
    exact PySem.W.kia_one (PySem.W.kitx_exc hcl hC.hg hC.hk hC.hs hC.ha hC.hn hC.ht hC.hm) I.kIn J hk (fun z => nomatch z) fun tk => ⟨.bl b, H, I.kept (t' := tk) fun _ _ z => z, rfl, q⟩
def isYD (sub : Str → Option Bool) : D → Option D
  | .exc c _ => (sub c).map .bl
  | _ => none
theorem ve_isY {sub : Str → Option Bool} {tv : Value} {t : V} (hO : OkI X.K tv sub) (pc : PE X ec (tC t)) (hr : ∀ u, RelV t u → u = tv) (ha : VE X W os e f os1 false) (hm : X.mg "isinstance" = none) (hg : Gl X "isinstance" := by rfl)
    (he : starEach [e, ec] X.env = (false, eval e X.env) :: starEach [ec] X.env := by rfl) (he2 : starEach [ec] X.env = (false, eval ec X.env) :: starEach [] X.env := by rfl) (hpl : (backTo pos (starEach [ec] X.env)).any (·.1) = false := by rfl) :
    VE X W os (.Call (.Name "isinstance" p) [e, ec] [] pos) (eOp1 (isYD sub) f) os1 false := by
  obtain ⟨ta, pa, ka⟩ := ha
  refine ⟨_, pe_callB call_isY hg hm (by decide +kernel) (pa_cons pa (pa_cons pc pa_nil he2) he) (by decide) (by decide) he hpl, fun S σ H ρ Q rel P => ?_⟩
  refine ka S σ H ρ _ rel (Post.seq P (fun z => z) (fun c fs p => p) fun d ρ1 v S1 H1 st1 rel1 q1 P1 => ?_)
  obtain ⟨c, hc, k⟩ := post_of (P1.step RV.ok st1) rel1
  replace q1 : At X.K S1 v d := q1
  cases d with
  | exc x fs =>
    have hc : (sub x).map D.bl = some c := hc
    cases hs : sub x with
    | none => rw [hs] at hc; cases hc
    | some b =>
      rw [hs] at hc
      cases hc
      cases q1 with
      | @exc0 a C _ h n =>
        obtain ⟨h1, h2⟩ := hO x b hs C n
        exact ⟨a, C, none, t, tv, b, rfl, rel1.sub _ _ h, (fun d z => nomatch z), h1, hr, h2, k (.bl b) S1 H1 (Ext.refl rel1.sub) (.bl b)⟩
      | exc1 h n hd hv =>
        rename_i a C d fn v' x'
        obtain ⟨h1, h2⟩ := hO x b hs C n
        exact ⟨a, C, some d, t, tv, b, rfl, rel1.sub _ _ h, (fun d' z => by cases z; exact ⟨_, rel1.sub _ _ hd⟩), h1, hr, h2, k (.bl b) S1 H1 (Ext.refl rel1.sub) (.bl b)⟩
  | _ => cases hc

/-! ### err.f -/
def xfD (ok : Str → Bool) (fn : Str) : D → Option D
  | .exc c fs => if ok c = true then fs.lookup fn else none
  | _ => none
/-- the classes whose errors' field fn may be read -/
def OkF (K : PySem.W.Frag) (fn : Str) (ok : Str → Bool) : Prop := ∀ c, ok c = true → ∀ C, PySem.W.nsIn K mainGlobals c = some (some (.ref C)) → XfC K C ∧ PySem.W.findIn K (.ref C) fn = some none
def tXd (K : PySem.W.Frag) (f : Str) (te : TE) : TE := fun σ H Q => te σ H fun x H1 => ∃ (a C dd : Addr) (fs : List (Str × V)) (v : V), x = .ref a ∧ H1 a = some (ExT (.ref C) (some dd) a) ∧ H1 dd = some (.xd fs) ∧ XfC K C ∧ PySem.W.findIn K (.ref C) f = some none ∧ fs.lookup f = some v ∧ Q v H1
theorem pe_xd {te : TE} {n : Str} (he : PE X e te) (hb : attributeBase e n X.env (eval e X.env) = eval e X.env := by rfl) : PE X (.Attribute e n pos) (tXd X.K n te) := by
  refine ⟨fun pins s σ H Q I h => ?_⟩
  refine attr_of hb (thn (he.run pins s σ H _ I h) fun u s1 hh => ?_)
  obtain ⟨x, H1, I1, rx, a, C, dd, fs, v, ex, eE, ea, T, hno, l, q⟩ := hh
  subst ex
  obtain rfl : u = Value.ref a := rx
  obtain ⟨⟨oe, vs, hget, hz, hv⟩, -, -⟩ := I1.hok a _ eE
  have hx : ObjOk X.prog X.w H1 s1.heap dd (.xd fs) := I1.hok dd _ ea
  obtain ⟨mA, hns, hr⟩ := hx
  obtain ⟨od, ho, hl⟩ := lookIn_ns hns
  obtain ⟨u, hu, ru⟩ := RelO.some_of (v := v) (o := mA n) (by rw [← l]; exact hr n)
  have J : PySem.W.InstAt s1.heap a oe C (some od) := ⟨hget, hz.1, by unfold PySem.W.notCls; rw [hv] <;> rfl, by rw [hz.2]; exact ho⟩
  exact HandSPX.exc_get I1.kIn J T.ga T.gg T.exC (PySem.W.findObj_own T.hdC hno rfl (by rw [hl, hu])) (handed_of ru) ⟨v, H1, I1.tok _, ru, q⟩
theorem ve_xf {ok : Str → Bool} {fn : Str} (hO : OkF X.K fn ok) (ha : VE X W os e f os1 false) (hb : attributeBase e fn X.env (eval e X.env) = eval e X.env := by rfl) : VE X W os (.Attribute e fn pos) (eOp1 (xfD ok fn) f) os1 false := by
  obtain ⟨ta, pa, ka⟩ := ha
  refine ⟨_, pe_xd pa hb, fun S σ H ρ Q rel P => ?_⟩
  refine ka S σ H ρ _ rel (Post.seq P (fun z => z) (fun c fs p => p) fun d ρ1 v S1 H1 st1 rel1 q1 P1 => ?_)
  obtain ⟨c, hc, k⟩ := post_of (P1.step RV.ok st1) rel1
  replace q1 : At X.K S1 v d := q1
  cases d with
  | exc x fs =>
    have hc : (if ok x = true then fs.lookup fn else none) = some c := hc
    split at hc
    · rename_i hok
      cases q1 with
      | exc0 h n => cases hc
      | @exc1 a C dd _ fn' v' _ h n hd hv =>
        obtain ⟨h1, h2⟩ := hO x hok C n
        rw [List.lookup_cons] at hc
        cases he : fn == fn' with
        | false => rw [he] at hc; cases hc
        | true =>
          rw [he] at hc
          cases hc
          exact ⟨a, C, dd, _, v', rfl, rel1.sub _ _ h, rel1.sub _ _ hd, h1, h2, by rw [List.lookup_cons, he], k v' S1 H1 (Ext.refl rel1.sub) hv⟩
    · cases hc
  | _ => cases hc
end
end SW

set_option maxRecDepth 100000
/-! SW34: try: e, except C as n: y = n. -/
namespace SW
open PySem PySem.Spec PyProof.Rows L2
section
variable {X : Cx} {W : WX} {L : Lc} {os os1 : Os} {pos p cp : Pos} {x : Str} {C : Addr}
/-- try: f; except: slot j = the error, slot i is empty then -/
def sTryE (okc : Str → Bool) (i j : Nat) (f : Rho → Out (D × Rho)) : Rho → Out Fl := fun ρ => match f ρ with
  | .ok p => .ok (.nx p.2)
  | .exc c fs => if okc c = true then .ok (.nx ((ρ.set j (some (.exc c (fl1 fs)))).set i none)) else .stuck
  | .stuck => .stuck
theorem vs_tryE {y n xc : Str} {e : Expr} {p1 pc py pn p2 p3 : Pos} {i j : Nat} {C0 : Value} {okc : Str → Bool} {f : Rho → Out (D × Rho)} (hv : ∀ (W : WX) (pn : List (Addr × Obj)) (xe : Value → Shared → Prop), Takes (X.tr pn xe) W → PassesOwn (model X.prog X.w) X.A X.env xe → VE (X.tr pn xe) W os e f os false)
    (hO : OkC X.K X.mg C0 okc) (hcn : Names X xc C0) (hst : X.stack = X.env :: X.outer) (hfr : X.env.frame = some X.env.locals) (hex : X.ex = []) (hN : X.N.Nodup) (hi : X.N[i]? = some n := by rfl) (hj : X.N[j]? = some y := by rfl)
    (hy : Loc X.env.scope y := by first | exact Or.inl rfl | exact Or.inr rfl) (hln : X.env.kindOf n = some .local := by rfl) (hvn : Vis X.env.scope n := by first | exact Or.inl rfl | exact Or.inr (Or.inl rfl) | exact Or.inr (Or.inr rfl))
    (hij : i ≠ j := by decide) (hfi : L.fx.getD i false = false := by rfl) (hfj : L.fx.getD j false = false := by rfl) (hos : os.all (fun b => !b) = true := by rfl)
    (hs1 : swapsWith e none p1.line X.env = pure false := by rfl) (hs2 : swapsWith (.Name n pn) (some (.Name y py)) p2.line X.env = pure false := by rfl)
    (hf2 : X.fn y = true ∨ X.env.scope.names.lookup y = some .local := by first | exact .inl rfl | exact .inr rfl | assumption)
    (hd : (n == ("__debug__" : Str)) = false := by decide) (hcd : (n == ("__classdict__" : Str)) = false := by decide) :
    VS X W L os (.Try [.Expr e p1] [.ExceptHandler (some (.Name xc pc)) (some n) [.Assign [.Name y py] (.Name n pn) p2] p3] [] [] pos) (sTryE okc i j f) os := by
  have no : ∀ m, os.getD m false = false := fun m => by
    rw [List.getD_eq_getElem?_getD]
    cases h : os[m]? with
    | none => rfl
    | some b =>
      have := List.all_eq_true.mp hos b (List.mem_of_getElem? h)
      simpa using this
  have nown : ∀ σ a, ¬ Own os σ a := fun σ a ⟨m, h, _⟩ => by rw [no m] at h; cases h
  have sos : ∀ m, os.set m false = os := fun m => by
    refine List.ext_getElem? fun l => ?_
    by_cases h : m = l
    · subst h
      by_cases hl : m < os.length
      · rw [List.getElem?_set_self hl, List.getElem?_eq_getElem hl]
        have := no m
        rw [List.getD_eq_getElem?_getD, List.getElem?_eq_getElem hl] at this
        have this : os[m] = false := this
        rw [this]
      · rw [List.getElem?_eq_none (by rw [List.length_set]; omega), List.getElem?_eq_none (by omega)]
    · rw [List.getElem?_set_ne h]
  let tb : WX → TS := fun W' D σ H => ∀ (pn : List (Addr × Obj)) (xe : Value → Shared → Prop) (tk : Takes (X.tr pn xe) W') (po : PassesOwn (model X.prog X.w) X.A X.env xe), (Classical.choose (hv W' pn xe tk po)) σ H fun _ H1 => D.nx σ H1
  let ts : Addr → Value → Option Addr → TS := fun a _ _ D σ H => (i < σ.length → σ[i]? = some (some (.ref a))) ∧ D.nx (σ.set j (some (.ref a))) H
  refine ⟨_, ps_try_keep (tb := tb) (ts := ts) hst hfr hN hi hln hcn hex (fun W' pn xe tk po => ?_) (fun a oe cls d pn z hd' => ?_), fun S σ H ρ Ds rel P => ?_⟩
  · have hp := (Classical.choose_spec (hv W' pn xe tk po)).1
    have h1 := pss_one (ps_expr (X := X.tr pn xe) hp hs1)
    exact ⟨fun pins s σ H D I q => h1.run pins s σ H D I (q pn xe tk po)⟩
  · have h1 := pss_one (ps_set (X := X.suite a ((a, oe) :: pn)) (pos' := py) hN hj hy (pe_var (X := X.suite a ((a, oe) :: pn)) hi hvn hd hcd) hs2 hf2)
    exact ⟨fun pins s σ H D I q => h1.run pins s σ H D I ⟨.ref a, q.1 (by rw [I.len]; exact (List.getElem?_eq_some_iff.mp hi).1), q.2⟩⟩
  · intro pn xe tk po
    refine (Classical.choose_spec (hv _ pn xe tk po)).2 S σ H ρ _ rel ?_
    unfold sTryE at P
    cases hf : f ρ with
    | ok q =>
      rw [hf] at P
      intro v S' H' st r2 hvv
      exact P σ S' H' ⟨st.ext, fun a h => (nown _ a h).elim⟩ FixOn.refl r2
    | exc c fs =>
      rw [hf] at P
      dsimp only at P
      split at P
      · rename_i hc
        obtain ⟨C, g1, g2, g3⟩ := hO c hc
        intro S' H' cls dd x ea
        have ecls : cls = .ref C := by
          have := ea.1
          have this : X.mg c = some cls := this
          rw [g1] at this
          exact (Option.some.inj this).symm
        subst ecls
        refine ⟨g2, fun a na => ?_⟩
        refine ⟨fun hil => List.getElem?_set_self (by rwa [List.length_set] at hil), ?_⟩
        have x0 : Ext (fun _ => False) S H S' H' := x.weak fun b q => nown _ b q
        have r1 := rel.ext0 x0
        have nS : S' a = none := r1.sub.free na
        have x2 := Ext.new (O := fun _ => False) (o := ExT (.ref C) dd a) r1.sub na
        have r2 := (r1.ext0 x2).set (at_exc (a := a) ea g1 g3 nS) j
        rw [sos j] at r2
        have r3 := r2.none i (no i)
        have eσ : (((σ.set i (some (.ref a))).set j (some (.ref a))).set i none) = (σ.set j (some (.ref a))).set i none := by
          rw [List.set_comm _ _ hij, List.set_set]
        show Ds.nx (((σ.set i (some (.ref a))).set j (some (.ref a))).set i none) (upd H' a (ExT (.ref C) dd a))
        rw [eσ]
        exact P _ _ _ ⟨(x0.trans x2 fun b q => .inl q).weak fun _ z => z.elim, fun b h => (nown _ b h).elim⟩ ((fix_set hfj).trans (fix_set hfi)) r3
      · exact P.elim
    | stuck => rw [hf] at P; exact P.elim
end
end SW

set_option maxRecDepth 100000
/-! SW35: equations for mirrors: statements in turn, dicts with pairs as keys, sorted pairs, enumerate. -/
namespace SW
open PySem PySem.Spec PyProof.Rows L2
/-! statements in turn -/
section
variable {a b : Rho → Out Fl} {ρ ρ1 : Rho} {d : D}
theorem seq_nx (h : a ρ = .ok (.nx ρ1)) : sSeq a b ρ = b ρ1 := by unfold sSeq; rw [h, bind_ok]
theorem seq_rt (h : a ρ = .ok (.rt d ρ1)) : sSeq a b ρ = .ok (.rt d ρ1) := by unfold sSeq; rw [h, bind_ok]
theorem set_nx {i : Nat} {f : Rho → Out (D × Rho)} (h : f ρ = .ok (d, ρ1)) : sSet i f ρ = .ok (.nx (ρ1.set i (some d))) := by unfold sSet; rw [h, bind_ok]
theorem sIf_t {c : Rho → Out (Bool × Rho)} (h : c ρ = .ok (true, ρ1)) : sIf c a b ρ = a ρ1 := by unfold sIf; rw [h, bind_ok]; rfl
theorem sIf_f {c : Rho → Out (Bool × Rho)} (h : c ρ = .ok (false, ρ1)) : sIf c a b ρ = b ρ1 := by unfold sIf; rw [h, bind_ok]; rfl
theorem for_of {f : Rho → Out (List D × Rho)} {t : D → Rho → Option Rho} {l : List D} (h : f ρ = .ok (l, ρ1)) : sFor f t a ρ = forL t a l ρ1 := by unfold sFor; rw [h, bind_ok]
theorem sFld_nx {i : Nat} {c f : Str} {fe : Rho → Out (D × Rho)} {fs : List (Str × D)} (h : fe ρ = .ok (d, ρ1)) (hg : ρ1.getD i none = some (.ins c fs)) (hl : fs.length < 1000) : sFldD i c f fe ρ = .ok (.nx (ρ1.set i (some (.ins c (putFD f d fs))))) := by
  unfold sFldD
  rw [h, bind_ok]
  dsimp only
  rw [hg]
  dsimp only
  rw [if_pos ⟨rfl, hl⟩]
theorem setA_dct {i : Nat} {f fi : Rho → Out (D × Rho)} {ds ds1 ds2 : List (NestedKey × D)} {ρ2 : Rho} {k : NestedKey} {q x : D} (h0 : ρ.getD i none = some (.dct ds)) (hf : f ρ = .ok (x, ρ1)) (h1 : ρ1.getD i none = some (.dct ds1)) (hi : fi ρ1 = .ok (q, ρ2)) (h2 : ρ2.getD i none = some (.dct ds2)) (hk : keyT q = some k) (hz : ds2.length < sizeLine) : sSetA i f fi ρ = .ok (.nx (ρ2.set i (some (.dct (putD ds2 k x))))) := by
  unfold sSetA
  rw [h0]
  dsimp only
  rw [hf, bind_ok]
  dsimp only
  rw [h1]
  dsimp only
  rw [hi, bind_ok]
  dsimp only
  rw [h2]
  dsimp only
  rw [hk]
  show (Out.of (if ds2.length < sizeLine then some (putD ds2 k x) else none)).bind _ = _
  rw [if_pos hz, of_some, bind_ok]
end
theorem lt_line {n : Nat} (h : n ≤ 200000) : n < sizeLine := Nat.lt_of_le_of_lt h (by decide)
/-! dicts with pairs as keys -/
abbrev Pr := Nat × Nat
def pk (p : Pr) : List Int := [((p.1 : Nat) : Int), ((p.2 : Nat) : Int)]
theorem pk_inj {p q : Pr} (h : pk p = pk q) : p = q := by
  unfold pk at h
  injection h with h1 h2
  injection h2 with h2 _
  exact Prod.ext (by omega) (by omega)
abbrev kD (p : Pr) : D := .tup [.int ((p.1 : Nat) : Int), .int ((p.2 : Nat) : Int)]
theorem kD_en (p : Pr) : kD p = eWord.en (pk p) := rfl
theorem keyT_kD (p : Pr) : keyT (kD p) = some (wk (pk p)) := keyT_word (pk p)
section
variable {α : Type}
def kvP (l : List (Pr × α)) : List (List Int × α) := l.map fun p => (pk p.1, p.2)
def getP (l : List (Pr × α)) (k : Pr) : Option α := (l.find? fun p => decide (p.1 = k)).map (·.2)
theorem getP_T (k : Pr) : ∀ l : List (Pr × α), getT (kvP l) (pk k) = getP l k
  | [] => rfl
  | p :: l => by
    have ih := getP_T k l
    unfold getT getP kvP at *
    rw [List.map_cons, List.find?_cons, List.find?_cons]
    dsimp only
    by_cases h : p.1 = k
    · subst h
      rw [decide_eq_true rfl, decide_eq_true rfl]
      rfl
    · rw [decide_eq_false h, decide_eq_false fun z => h (pk_inj z)]
      exact ih
abbrev dP (f : α → D) (l : List (Pr × α)) : D := .dct (dE f (kvP l))
theorem ixA_P {f : α → D} {l : List (Pr × α)} {k : Pr} {x : α} (h : getP l k = some x) : ixA (dP f l) (kD k) = some (f x) := by
  show (keyT (kD k)).bind (valD _) = _
  rw [keyT_kD]
  show valD (dE f (kvP l)) (wk (pk k)) = _
  rw [valD_E, getP_T, h]
  rfl
theorem inA_P (f : α → D) (l : List (Pr × α)) (k : Pr) : inA (kD k) (dP f l) = some (.bl (getP l k).isSome) := by
  unfold inA inDct
  dsimp only
  rw [keyT_kD]
  show some (D.bl (valD (dE f (kvP l)) (wk (pk k))).isSome) = _
  rw [valD_E, Option.isSome_map, getP_T]
theorem items_P (f : α → D) (l : List (Pr × α)) : itemsA (dP f l) = some ((l.map (·.1)).map kD) := by
  show some ((dE f (kvP l)).map fun p => keyB p.1) = _
  rw [keys_E]
  unfold kvP
  rw [List.map_map, List.map_map, List.map_map]
  rfl
theorem put_P (f : α → D) (l : List (Pr × α)) (k : Pr) (x : α) (h : getP l k = none) : putD (dE f (kvP l)) (wk (pk k)) (f x) = dE f (kvP (l ++ [(k, x)])) := by
  rw [putD_E]
  unfold setT
  rw [getP_T, h]
  show dE f (kvP l ++ [(pk k, x)]) = _
  unfold kvP
  rw [List.map_append]
  rfl
theorem dP_len (f : α → D) (l : List (Pr × α)) : (dE f (kvP l)).length = l.length := by rw [dE_len]; exact List.length_map ..
theorem getP_none {l : List (Pr × α)} {k : Pr} : getP l k = none ↔ k ∉ l.map (·.1) := by
  unfold getP
  rw [Option.map_eq_none_iff, List.find?_eq_none]
  constructor
  · intro h z
    obtain ⟨p, hp, e⟩ := List.mem_map.mp z
    exact h p hp (decide_eq_true e)
  · intro h p hp z
    exact h (List.mem_map.mpr ⟨p, hp, of_decide_eq_true z⟩)
theorem getP_mem : ∀ {l : List (Pr × α)} {p : Pr × α}, (l.map (·.1)).Nodup → p ∈ l → getP l p.1 = some p.2
  | q :: l, p, hn, hp => by
    rw [List.map_cons, List.nodup_cons] at hn
    unfold getP
    rw [List.find?_cons]
    rcases List.mem_cons.mp hp with rfl | hp
    · rw [decide_eq_true rfl]; rfl
    · have hne : ¬ q.1 = p.1 := fun z => hn.1 (by rw [z]; exact List.mem_map.mpr ⟨p, hp, rfl⟩)
      rw [decide_eq_false hne]
      exact getP_mem hn.2 hp
theorem getP_perm {l l' : List (Pr × α)} (hp : l.Perm l') (hn : (l.map (·.1)).Nodup) (k : Pr) : getP l k = getP l' k := by
  have hn' : (l'.map (·.1)).Nodup := (hp.map _).nodup_iff.mp hn
  cases h : getP l' k with
  | none =>
    rw [getP_none] at h ⊢
    exact fun z => h ((hp.map _).mem_iff.mp z)
  | some x =>
    unfold getP at h
    obtain ⟨p, e1, e2⟩ := Option.map_eq_some_iff.mp h
    have hk : p.1 = k := by simpa using List.find?_some e1
    have hm := List.mem_of_find?_eq_some e1
    have := getP_mem hn (hp.mem_iff.mpr hm)
    rw [hk, e2] at this
    exact this
end
/-! sorted words, sorted pairs -/
def leWd (a b : List Int) : Bool := PySem.W.dataLe false pyF (eWord.en a) (eWord.en b)
theorem pyF_wd (w : List Int) : pyF (eWord.en w) = eWord.py w := by unfold pyF; rw [eWord.hpy]; rfl
theorem sort_wds (ws : List (List Int)) : sortD (ws.map eWord.en) = some ((ws.mergeSort leWd).map eWord.en) := by
  unfold sortD
  have h1 : ((ws.map eWord.en).all fun d => d.py.isSome) = true := List.all_eq_true.mpr fun d hd => by
    obtain ⟨w, _, rfl⟩ := List.mem_map.mp hd
    rw [eWord.hpy]; rfl
  have h2 : keysOkC ((ws.map eWord.en).map pyF) = true := by
    have key : ∀ p ∈ (ws.map eWord.en).map pyF, ∃ w : List Int, p = eWord.py w := fun p hp => by
      obtain ⟨d, hd, rfl⟩ := List.mem_map.mp hp
      obtain ⟨w, _, rfl⟩ := List.mem_map.mp hd
      exact ⟨w, pyF_wd w⟩
    unfold keysOkC
    rw [Bool.and_eq_true, Bool.and_eq_true]
    refine ⟨⟨List.all_eq_true.mpr fun p hp => List.all_eq_true.mpr fun q hq => ?_, Bool.or_eq_true_iff.mpr (.inr (List.all_eq_true.mpr fun p hp => ?_))⟩, List.all_eq_true.mpr fun p hp => ?_⟩
    · obtain ⟨a, rfl⟩ := key p hp
      obtain ⟨b, rfl⟩ := key q hq
      show PySem.W.alike (.tuple (a.map PyData.int)) (.tuple (b.map PyData.int)) = true
      rw [PySem.W.alike]
      exact alike_ints a b
    · obtain ⟨a, rfl⟩ := key p hp
      rfl
    · obtain ⟨a, rfl⟩ := key p hp
      exact decide_eq_true (Nat.le_trans (eWord.hdp a) (by decide))
  rw [if_pos ⟨h1, h2⟩]
  congr 1
  exact (List.map_mergeSort (r := leWd) (s := PySem.W.dataLe false pyF) (f := eWord.en) (l := ws) fun a _ b _ => rfl).symm
def leP (a b : Pr) : Bool := leWd (pk a) (pk b)
theorem sort_P (ws : List Pr) : sortD (ws.map kD) = some ((ws.mergeSort leP).map kD) := by
  have e : ws.map kD = (ws.map pk).map eWord.en := by rw [List.map_map]; rfl
  rw [e, sort_wds]
  congr 1
  rw [← List.map_mergeSort (r := leP) (s := leWd) (f := pk) (l := ws) fun a _ b _ => rfl, List.map_map]
  rfl
theorem leWd_lt (a b : List Int) : leWd a b = !ltN b a := by
  have h : leWd a b = !PySem.W.dataLt (eWord.py b) (eWord.py a) := by
    show (!PySem.W.dataLt (pyF (eWord.en b)) (pyF (eWord.en a))) = _
    rw [pyF_wd, pyF_wd]
  rw [h, lt_word]
theorem leP_is (a b : Pr) : leP a b = decide (a.1 < b.1 ∨ (a.1 = b.1 ∧ a.2 ≤ b.2)) := by
  unfold leP
  rw [leWd_lt]
  unfold pk
  unfold ltN
  by_cases h : b.1 = a.1
  · rw [if_pos (by omega)]
    unfold ltN
    by_cases h2 : b.2 = a.2
    · rw [if_pos (by omega)]
      unfold ltN
      rw [Bool.not_false]
      exact (decide_eq_true (.inr ⟨h.symm, by omega⟩)).symm
    · rw [if_neg (by omega)]
      rw [Bool.eq_iff_iff, Bool.not_eq_true', decide_eq_false_iff_not, decide_eq_true_iff]
      omega
  · rw [if_neg (by omega)]
    rw [Bool.eq_iff_iff, Bool.not_eq_true', decide_eq_false_iff_not, decide_eq_true_iff]
    omega
theorem leP_trans (a b c : Pr) (h1 : leP a b = true) (h2 : leP b c = true) : leP a c = true := by
  rw [leP_is, decide_eq_true_iff] at *
  omega
theorem leP_total (a b : Pr) : (leP a b || leP b a) = true := by
  rw [leP_is, leP_is, Bool.or_eq_true, decide_eq_true_iff, decide_eq_true_iff]
  omega
theorem sorted_P {l : List Pr} (h : l.Pairwise fun a b => leP a b = true) : l.mergeSort leP = l := List.mergeSort_of_pairwise h
/-! enumerate, indexes -/
theorem enum_map {α : Type} (f : α → D) (z : α) (l : List α) : iEnum1 [.lst (l.map f)] = some ((List.range l.length).map fun i => .tup [.int ((i : Nat) : Int), f (l.getD i z)]) := by
  show some (enumD (l.map f)) = _
  unfold enumD
  rw [List.length_map]
  congr 1
  refine List.ext_getElem? fun i => ?_
  rw [List.getElem?_zipWith, List.getElem?_map, List.getElem?_map]
  by_cases h : i < l.length
  · rw [List.getElem?_range h, List.getElem?_eq_getElem h]
    show some (D.tup [.int (i : Nat), f l[i]]) = some (D.tup [.int (i : Nat), f (l.getD i z)])
    rw [List.getD_eq_getElem?_getD, List.getElem?_eq_getElem h]
    rfl
  · rw [List.getElem?_eq_none (by rw [List.length_range]; omega)]
    rfl
/-! a loop over the first numbers -/
theorem forL_range' {b : D → Rho → Option Rho} {g : Rho → Out Fl} {f : Nat → D} {St : Nat → Rho → Prop} : ∀ (m s : Nat) (ρ : Rho), St s ρ → (∀ i, s ≤ i → i < s + m → ∀ ρ, St i ρ → ∃ ρ1 ρ2, b (f i) ρ = some ρ1 ∧ g ρ1 = .ok (.nx ρ2) ∧ St (i + 1) ρ2) →
    ∃ ρ', forL b g ((List.range' s m).map f) ρ = .ok (.nx ρ') ∧ St (s + m) ρ'
  | 0, s, ρ, h, _ => ⟨ρ, rfl, h⟩
  | m + 1, s, ρ, h, st => by
    obtain ⟨ρ1, ρ2, e1, e2, h2⟩ := st s (Nat.le_refl _) (by omega) ρ h
    obtain ⟨ρ', e3, h3⟩ := forL_range' m (s + 1) ρ2 h2 fun i hi hj => st i (by omega) (by omega)
    have e : s + 1 + m = s + (m + 1) := by omega
    refine ⟨ρ', ?_, e ▸ h3⟩
    rw [List.range'_succ, List.map_cons]
    unfold forL
    rw [e1]
    dsimp only
    rw [e2, bind_ok]
    exact e3
theorem forL_range {b : D → Rho → Option Rho} {g : Rho → Out Fl} {f : Nat → D} {St : Nat → Rho → Prop} (n : Nat) (ρ : Rho) (h : St 0 ρ) (st : ∀ i, i < n → ∀ ρ, St i ρ → ∃ ρ1 ρ2, b (f i) ρ = some ρ1 ∧ g ρ1 = .ok (.nx ρ2) ∧ St (i + 1) ρ2) :
    ∃ ρ', forL b g ((List.range n).map f) ρ = .ok (.nx ρ') ∧ St n ρ' := by
  obtain ⟨ρ', e, h'⟩ := forL_range' (b := b) (g := g) (f := f) (St := St) n 0 ρ h fun i _ hi => st i (by omega)
  rw [Nat.zero_add] at h'
  exact ⟨ρ', by rw [List.range_eq_range']; exact e, h'⟩
/-- l[:-1] -/
theorem cut_last (l : List D) : cutD l none (some (-1)) = l.dropLast := by
  unfold cutD
  have e : HT.sIx l.length l.length (some (-1)) = l.length - 1 := by
    show (if (-1 : Int) < 0 then (-1 + (l.length : Int)).toNat else min (-1 : Int).toNat l.length) = _
    rw [if_pos (by decide)]
    omega
  rw [e, List.dropLast_eq_take]
  show List.take (l.length - 1 - 0) (l.drop 0) = _
  rw [List.drop_zero, Nat.sub_zero]
/-! an error's class with a field of its own, looked at by one truth -/
theorem oex_of {K : PySem.W.Frag} {C : Addr} (q : oexIn K C = true) : ∃ nm q N bs bm sn sub ab col dd k0 k1 k2 k3 k5, K.lookup C = some (PySem.excClassObj nm q C N bs bm true sn sub ab col dd k0 k1 k2 k3 k5 "ValueError.__new__") ∧ PySem.HandSPX.refsVE bm = true := by
  unfold oexIn at q
  split at q
  · rename_i dd cd sl ho
    split at q
    · rename_i C' bm k0 k1 k2 k3 n k5 hm hs
      simp only [Bool.and_eq_true, beq_iff_eq, Bool.not_eq_true'] at q
      obtain ⟨⟨⟨⟨rfl, rfl⟩, hdel⟩, hdi⟩, ht⟩ := q
      obtain ⟨nm, bs, mro, ns, qn, hd, sn, sub, ab, col, del⟩ := cd
      dsimp only at hm hdel hdi
      subst hm hdel hdi
      have hsl : sl = #[k0, k1, k2, k3, some (.builtin "ValueError.__new__"), k5] := by
        obtain ⟨l⟩ := sl
        simp only at hs
        rw [hs]
      subst hsl
      exact ⟨nm, qn, ns, bs, bm, sn, sub, ab, col, dd, k0, k1, k2, k3, k5, ho, ht⟩
    · cases q
  · cases q
end SW

set_option maxRecDepth 100000
/-! SW36: the constants off the top's facts. -/
namespace SW
open PySem PySem.Spec PyProof.Rows L2
section
variable {fk : PySem.W.Frag → Bool} {fn : List He.FnD} {K : PySem.W.Frag} {h : Heap} {mg : Str → Option Value}
theorem konst_intB (X : K.In h) (G : h.Ns mainGlobals mg) {x : Str} {i : Int} (c : (He.Fa.int x i).ok K = true) : Konst K mg x (.int i) := by
  obtain ⟨t, e⟩ := He.int_ok X G c
  exact konst_int e
theorem konst_strB (X : K.In h) (G : h.Ns mainGlobals mg) {x z : Str} (c : (He.Fa.str x z).ok K = true) : Konst K mg x (.str z) := by
  obtain ⟨t, e⟩ := He.str_ok X G c
  exact konst_str e
/-- a value of the top as data: no objects -/
def flatV : He.Dv → Option D
  | .non => some .non
  | .bl b => some (.bl b)
  | .int i => some (.int i)
  | .str x => some (.str x)
  | _ => none
theorem atL_flat {K : PySem.W.Frag} {S : Hp} : ∀ {vs : List He.Dv} {ds : List D}, vs.mapM flatV = some ds → AtL K S (vs.map (He.Dv.v K)) ds
  | [], ds, e => by
    simp only [List.mapM_nil, pure, Option.some.injEq] at e
    subst e
    exact .nil
  | v :: vs, ds, e => by
    simp only [List.mapM_cons, bind, Option.bind_eq_some_iff, pure, Option.some.injEq] at e
    obtain ⟨d, e1, ds', e2, rfl⟩ := e
    refine .cons ?_ (atL_flat e2)
    cases v with
    | non => cases e1; exact .non
    | bl b => cases e1; exact .bl b
    | int i => cases e1; exact .int i
    | str x => cases e1; exact .str x
    | _ => cases e1
theorem konst_tupB (X : K.In h) (G : h.Ns mainGlobals mg) {x : Str} {vs : List He.Dv} {ds : List D} (c : PySem.W.nsIn K mainGlobals x = some (some (.ref (He.ga K x)))) (hb : He.tupB K x vs = true) (hd : vs.mapM flatV = some ds) (hl : ds.length ≤ sizeLine) :
    Konst K mg x (.tup ds) := by
  unfold He.tupB at hb
  cases q : K.lookup (He.ga K x) with
  | none =>
    rw [q] at hb
    cases hb
  | some o =>
    obtain ⟨oc, od, dt, osl⟩ := o
    rw [q] at hb
    cases oc with
    | type cc =>
      cases dt with
      | seq its n =>
        obtain ⟨h1, h2⟩ := He.ba (show (decide (cc = "tuple") && (decide (its.size ≤ sizeLine) && He.relAll (vs.map (He.Dv.v K)) its.toList)) = true from hb)
        obtain ⟨h3, h4⟩ := He.ba h2
        exact konst_tup (PySem.W.mg_of X G c) q (congrArg Value.type (of_decide_eq_true h1)) rfl ⟨of_decide_eq_true h3, hl⟩ (He.relAll_ok h4) (atL_flat hd)
      | _ => cases hb
    | _ => cases dt <;> cases hb
end
/-- the same slots, said otherwise -/
theorem VSs.to {X : Cx} {W : WX} {L : Lc} {os o1 o2 : Os} {st : List Stmt} {g : Rho → Out Fl} (h : VSs X W L os st g o1) (e : o1 = o2 := by rfl) : VSs X W L os st g o2 := e ▸ h
end SW

set_option maxRecDepth 100000
/-! SW37: an owned list put together with another one: a new list; the owner keeps its own. -/
namespace SW
open PySem PySem.Spec PyProof.Rows L2
section
variable {X : Cx} {W : WX} {os os1 : Os} {e2 : Expr} {f2 : Rho → Out (D × Rho)} {pos p : Pos}
def eCatO (i : Nat) (f : Rho → Out (D × Rho)) : Rho → Out (D × Rho) := fun ρ => match ρ.getD i none with
  | some _ => (f ρ).bind fun q => match q.2.getD i none with
    | some d => (Out.of (catL d q.1)).bind fun c => .ok (c, q.2)
    | none => .stuck
  | none => .stuck
theorem ve_catO (i : Nat) {x : Str} (hb : VE X W os e2 f2 os1 false) (ho : os.getD i false = true := by rfl) (ho1 : os1.getD i false = true := by rfl) (hN : X.N[i]? = some x := by rfl) (hv : Vis X.env.scope x := by first | exact Or.inl rfl | exact Or.inr (Or.inl rfl) | exact Or.inr (Or.inr rfl))
    (hd : (x == ("__debug__" : Str)) = false := by decide) (hcd : (x == ("__classdict__" : Str)) = false := by decide) : VE X W os (.BinOp (.Name x p) .Add e2 pos) (eCatO i f2) os1 true := by
  obtain ⟨tb, pb, kb⟩ := hb
  refine ⟨_, pe_op op_cat (pe_var hN hv hd hcd) pb, fun S σ H ρ Q rel P => ?_⟩
  unfold eCatO at P
  cases h0 : ρ.getD i none with
  | none => rw [h0] at P; exact P.elim
  | some d0 =>
    rw [h0] at P
    obtain ⟨v, ev, _⟩ := rel.own (getD_some h0) ho
    refine ⟨v, ev, kb S σ H ρ _ rel (Post.seq P (fun z => z) (fun c fs p => p) fun d2 ρ2 v2 S2 H2 st2 rel2 q2 P2 => ?_)⟩
    have P2 := P2.step RV.ok st2
    dsimp only at P2
    cases h1 : ρ2.getD i none with
    | none => rw [h1] at P2; exact P2.elim
    | some d1 =>
      rw [h1] at P2
      obtain ⟨v', ev', hown⟩ := rel2.own (getD_some h1) ho1
      rw [ev] at ev'
      cases ev'
      obtain ⟨a, ea, na, oo, eh, bd⟩ := hown
      subst ea
      have q2 : At X.K S2 v2 d2 := q2
      cases bd with
      | @lst vs ds z r =>
        cases q2 with
        | @lst b ws es hs2 z2 r2 =>
          have P2 : Post X W S2 H2 os1 σ os1 (RV X.K true) Q ((Out.of (if ds.length + es.length ≤ sizeLine then some (D.lst (ds ++ es)) else none)).bind fun c => .ok (c, ρ2)) := P2
          split at P2
          · rename_i hz
            refine ⟨a, b, vs, ws, rfl, rfl, eh, rel2.sub _ _ hs2, by rw [r.length, r2.length]; exact hz, fun q nq => ?_⟩
            have xx := Ext.newO (O := fun _ => False) (o := .lst (vs ++ ws)) rel2.sub nq
            exact P2 (.ref q) S2 _ (Stp.of_ext xx) (rel2.ext0 xx) ⟨.mkL (rel2.sub.free nq) upd_same (by rw [List.length_append]; exact hz) (r.append r2), fun a e => by cases e; exact nq⟩
          · exact P2.elim
        | _ => exact P2.elim
      | _ => exact P2.elim
end
end SW

set_option maxRecDepth 100000
/-! SW38: x.insert(i, e) of an owned list. -/
namespace SW
open PySem PySem.Spec PyProof.Rows L2
section
variable {X : Cx}
def uInsert : List D → List D → Option (D × List D)
  | ds, [.int i, d] => if 0 ≤ i ∧ i < 2 ^ 63 ∧ ds.length < sizeLine then some (.non, ds.take i.toNat ++ [d] ++ ds.drop i.toNat) else none
  | _, _ => none
theorem own_insert : OwnM X "list.insert" uInsert := ⟨_, mt_insert, fun S H a vs ds ws es c ds' Q sub hH na r rw_ z e k => by
  unfold uInsert at e
  split at e
  · rename_i i d
    split at e
    · rename_i hi
      cases e
      match ws, rw_ with
      | [_, w], .cons (.int _) (.cons hw .nil) =>
        refine ⟨a, vs, i, w, rfl, rfl, hH, by rw [r.length]; exact hi.2.2, hi.1, hi.2.1, k _ _ (((r.take i.toNat).append (.cons hw .nil)).append (r.drop i.toNat)) ?_ .non⟩
        rw [List.length_append, List.length_append, List.length_take, List.length_drop, List.length_singleton]
        omega
    · cases e
  · cases e⟩
end
end SW

set_option maxRecDepth 100000
/-! SW39: a look that gives tuples or a new list of them; a call whose turned argument is new, at any place. -/
namespace SW
open PySem PySem.Spec PyProof.Rows L2

theorem ownM_ok {u : List D → List D → Option (D × List D)} {i : Nat} {g : Rho → Out (List D × Rho)} {ρ ρ1 : Rho} {ds0 ds ds' args : List D} {r : D} (h0 : ρ.getD i none = some (.lst ds0)) (h1 : g ρ = .ok (args, ρ1)) (h2 : ρ1.getD i none = some (.lst ds)) (h3 : u ds args = some (r, ds')) : eOwnM u i g ρ = .ok (r, ρ1.set i (some (.lst ds'))) := by
  unfold eOwnM
  rw [h0]
  dsimp only
  rw [h1, bind_ok]
  dsimp only
  rw [h2]
  dsimp only
  rw [h3, of_some, bind_ok]
theorem expr_nx {f : Rho → Out (D × Rho)} {ρ ρ1 : Rho} {d : D} (h : f ρ = .ok (d, ρ1)) : sExpr f ρ = .ok (.nx ρ1) := by unfold sExpr; rw [h, bind_ok]
mutual
/-- no list, no dict, no instance in it -/
def tokD : D → Bool
  | .non => true
  | .bl _ => true
  | .int _ => true
  | .str _ => true
  | .ty _ => true
  | .tup ds => tokL ds
  | _ => false
def tokL : List D → Bool
  | [] => true
  | d :: ds => tokD d && tokL ds
end
/-- no cell of a tuple is dropped -/
def NoTup (S : Hp) (O : Addr → Prop) : Prop := ∀ a vs, O a → (S a ≠ some (.tup vs) ∧ ∀ o, S a ≠ some (.frz o (.tup vs)))
section
variable {K : PySem.W.Frag} {S S2 : Hp} {O : Addr → Prop}
theorem sqT_drop {a : Addr} {vs : List V} (hn : NoTup S O) (h2 : ∀ a, ¬ O a → S2 a = S a) (h : SqT K S a vs) : SqT K S2 a vs := by
  rcases h with (h | ⟨o, h⟩) | h
  · exact .inl (.inl (by rw [h2 a fun z => (hn a vs z).1 h]; exact h))
  · exact .inl (.inr ⟨o, by rw [h2 a fun z => (hn a vs z).2 o h]; exact h⟩)
  · exact .inr h
mutual
theorem tok_drop (hn : NoTup S O) (h2 : ∀ a, ¬ O a → S2 a = S a) : ∀ {v : V} {d : D}, At K S v d → tokD d = true → At K S2 v d
  | _, _, .non, _ => .non
  | _, _, .bl b, _ => .bl b
  | _, _, .int i, _ => .int i
  | _, _, .str x, _ => .str x
  | _, _, .tup h z r, t => .tup (sqT_drop hn h2 h) z (tokL_drop hn h2 r (by unfold tokD at t; exact t))
  | _, _, .lst _ _ _, t => by unfold tokD at t; cases t
  | _, _, .dct _ _ _ _, t => by unfold tokD at t; cases t
  | _, _, .ins _ _ _ _ _, t => by unfold tokD at t; cases t
  | _, _, .exc0 _ _, t => by unfold tokD at t; cases t
  | _, _, .exc1 _ _ _ _, t => by unfold tokD at t; cases t
  | _, _, .scr _ _, t => by unfold tokD at t; cases t
  | _, _, .ty n h, _ => .ty n h
theorem tokL_drop (hn : NoTup S O) (h2 : ∀ a, ¬ O a → S2 a = S a) : ∀ {vs : List V} {ds : List D}, AtL K S vs ds → tokL ds = true → AtL K S2 vs ds
  | _, _, .nil, _ => .nil
  | _, _, .cons h r, t => by
    unfold tokL at t
    obtain ⟨t1, t2⟩ := Bool.and_eq_true_iff.mp t
    exact .cons (tok_drop hn h2 h t1) (tokL_drop hn h2 r t2)
end
end
section
variable {K : PySem.W.Frag} {S S' H H' S1 : Hp} {os : Os} {σ : Sg} {ρ : Rho}
theorem Rel.ownBody (r : Rel K S H os σ ρ) {a : Addr} (h : Own os σ a) : ∃ o d, H a = some o ∧ Body K S a o d := by
  obtain ⟨i, ho, hs⟩ := h
  have hl : i < ρ.length := by rw [← r.len]; exact (List.getElem?_eq_some_iff.mp hs).1
  have q := r.slot i _ _ hs (List.getElem?_eq_getElem hl)
  rw [ho] at q
  cases e : ρ[i] with
  | none => rw [e] at q; exact q.elim
  | some d =>
    rw [e] at q
    obtain ⟨b, eb, _, o, eh, bd⟩ := (show OwnAt K S H (.ref a) d from q)
    cases eb
    exact ⟨o, d, eh, bd⟩
theorem Look.noTup (lk : Look S H os σ S1) (r : Rel K S H os σ ρ) (e : Same S1 S') : NoTup S' (Own os σ) := fun a vs ho => by
  obtain ⟨o, d, eh, bd⟩ := r.ownBody ho
  have q := e a o ((lk.own a ho).trans eh)
  rw [q]
  cases bd <;> exact ⟨(fun z => by cases z), fun _ z => by cases z⟩
/-- behind a look: what was owned is owned again; what else stands, stands -/
theorem Look.backT (lk : Look S H os σ S1) (r : Rel K S H os σ ρ) (x : Ext (Own [] σ) S1 H S' H') : ∃ S2, (∀ a, ¬ Own os σ a → S2 a = S' a) ∧ (∀ a, Own os σ a → S2 a = none) ∧ Rel K S2 H' os σ ρ ∧ Stp os σ S H os σ S2 H' := by
  classical
  have h2 : ∀ a, ¬ Own os σ a → (fun a => if Own os σ a then none else S' a) a = S' a := fun a z => if_neg z
  have h3 : ∀ a, Own os σ a → (fun a => if Own os σ a then none else S' a) a = none := fun a z => if_pos z
  have s2 : Same S (fun a => if Own os σ a then none else S' a) := fun a o e => by
    have no : ¬ Own os σ a := fun z => by rw [(r.owned z).1] at e; cases e
    rw [h2 a no]
    exact x.s a o (lk.s a o e)
  have sh : Same (fun a => if Own os σ a then none else S' a) H' := fun a o e => by
    by_cases z : Own os σ a
    · rw [h3 a z] at e; cases e
    · rw [h2 a z] at e; exact x.sh a o e
  have keep : ∀ a o, Own os σ a → H a = some o → H' a = some o := fun a o z e => x.sh a o (x.s a o ((lk.own a z).trans e))
  refine ⟨_, h2, h3, ⟨sh, r.len, fun i v d e1 e2 => ?_, r.sep⟩, ⟨⟨s2, sh, fun a o e n no => ⟨?_, ?_⟩, x.there⟩, fun a q => .inl q⟩⟩
  · have q := r.slot i v d e1 e2
    cases ho : os.getD i false <;> rw [ho] at q <;> cases v <;> cases d <;> simp only [SlotAt] at q ⊢
    · exact q.mono s2
    · rename_i v d
      obtain ⟨a, ea, na, q⟩ := q
      subst ea
      have own : Own os σ a := ⟨i, ho, e1⟩
      obtain ⟨o, eh, bd⟩ := q
      exact ⟨a, rfl, h3 a own, o, keep a _ own eh, bd.mono s2⟩
  · exact (x.fr a o e ((lk.out a no).trans n) fun z => own_nil z).1
  · exact (h2 a no).trans (x.fr a o e ((lk.out a no).trans n) fun z => own_nil z).2
end
section
variable {X : Cx} {W : WX} {os os1 os2 : Os} {e : Expr} {es : List Expr} {f : Rho → Out (D × Rho)} {pos p : Pos}
def ePeekT (f : Rho → Out (D × Rho)) : Rho → Out (D × Rho) := fun ρ => (f ρ).bind fun p => if tokD p.1 = true then .ok (p.1, ρ) else .stuck
def ePeekL (f : Rho → Out (D × Rho)) : Rho → Out (D × Rho) := fun ρ => (f ρ).bind fun p => match p.1 with
  | .lst ds => if tokL ds = true then .ok (.lst ds, ρ) else .stuck
  | _ => .stuck
/-- an expression that turns nothing and gives a tuple without lists -/
theorem ve_peekT (h : VE X W [] e f os1 false) (hos : os1 = [] := by rfl) : VE X W os e (ePeekT f) os false := by
  subst hos
  obtain ⟨t, p, k⟩ := h
  refine ⟨t, p, fun S σ H ρ Q rel P => ?_⟩
  obtain ⟨S1, lk, rel1⟩ := freezeAll rel
  refine k S1 σ H ρ Q rel1 ?_
  unfold ePeekT at P
  cases h : f ρ with
  | exc c fs => rw [h] at P; exact fun S' H' cls dd x q => P S' H' cls dd (lk.exc x) q
  | stuck => rw [h] at P; exact P.elim
  | ok z =>
    obtain ⟨d, ρ'⟩ := z
    rw [h] at P
    have P : Post X W S H os σ os (RV X.K false) Q (if tokD d = true then .ok (d, ρ) else .stuck) := P
    split at P
    · rename_i hf
      intro v S' H' st _ hv
      obtain ⟨S2, h2, h3, rel2, st2⟩ := lk.backT rel st.ext
      exact P v S2 H' st2 rel2 (tok_drop (lk.noTup rel st.ext.s) h2 (show At X.K S' v d from hv) hf)
    · exact P.elim
/-- an expression that turns nothing and gives a new list of such -/
theorem ve_peekL (h : VE X W [] e f os1 true) (hos : os1 = [] := by rfl) : VE X W os e (ePeekL f) os true := by
  subst hos
  obtain ⟨t, p, k⟩ := h
  refine ⟨t, p, fun S σ H ρ Q rel P => ?_⟩
  obtain ⟨S1, lk, rel1⟩ := freezeAll rel
  refine k S1 σ H ρ Q rel1 ?_
  unfold ePeekL at P
  cases h : f ρ with
  | exc c fs => rw [h] at P; exact fun S' H' cls dd x q => P S' H' cls dd (lk.exc x) q
  | stuck => rw [h] at P; exact P.elim
  | ok z =>
    obtain ⟨d, ρ'⟩ := z
    rw [h] at P
    cases d with
    | lst ds =>
      have P : Post X W S H os σ os (RV X.K true) Q (if tokL ds = true then .ok (.lst ds, ρ) else .stuck) := P
      split at P
      · rename_i hf
        intro v S' H' st _ hv
        obtain ⟨S2, h2, h3, rel2, st2⟩ := lk.backT rel st.ext
        obtain ⟨⟨a, rfl, na, o, ea, bd⟩, fr⟩ := (show OwnAt X.K S' H' v (.lst ds) ∧ ∀ a, v = .ref a → H a = none from hv)
        have no : ¬ Own os σ a := fun z => by
          obtain ⟨o, d, eh, _⟩ := rel.ownBody z
          rw [fr a rfl] at eh; cases eh
        cases bd with
        | lst z r => exact P _ S2 H' st2 rel2 ⟨⟨a, rfl, (h2 a no).trans na, _, ea, .lst z (tokL_drop (lk.noTup rel st.ext.s) h2 r hf)⟩, fr⟩
      · exact P.elim
    | _ => exact P.elim
/-! a call whose turned argument, the k-th, is a new list or dict -/
def RLC (K : PySem.W.Frag) (n k : Nat) : RR (List D) (List V) := fun H S' H' vs ds => vs.length = n ∧ ds.length = n ∧ (∃ u du, vs[k]? = some u ∧ ds[k]? = some du ∧ OwnAt K S' H' u du ∧ ∀ a, u = .ref a → H a = none) ∧ ∀ j d, j ≠ k → ds[j]? = some d → ∃ v, vs[j]? = some v ∧ At K S' v d
theorem RLC.ok {K : PySem.W.Frag} {n k : Nat} : (RLC K n k).Ok := fun H H1 S' H' b d h q => by
  obtain ⟨q1, q2, ⟨u, du, q3, q4, q5, q6⟩, q7⟩ := q
  exact ⟨q1, q2, ⟨u, du, q3, q4, q5, fun a e => h a (q6 a e)⟩, q7⟩
def VC (X : Cx) (W : WX) (os : Os) (es : List Expr) (k : Nat) (f : Rho → Out (List D × Rho)) (os' : Os) : Prop :=
  ∃ t, PA X es t ∧ ∀ S σ H ρ Q, Rel X.K S H os σ ρ → Post X W S H os σ os' (RLC X.K es.length k) Q (f ρ) → t σ H Q
theorem vc_here {g : Rho → Out (List D × Rho)} (h0 : VE X W os e f os1 true) (ha : VA X W os1 es g os2) (hle : Le os1 os := by rfl) (hs : starEach (e :: es) X.env = (false, eval e X.env) :: starEach es X.env := by rfl) : VC X W os (e :: es) 0 (aCons f g) os2 := by
  obtain ⟨t0, p0, k0⟩ := h0
  obtain ⟨ta, pa, ka⟩ := ha
  refine ⟨_, pa_cons p0 pa hs, fun S σ H ρ Q rel P => ?_⟩
  refine k0 S σ H ρ _ rel (Post.seq P (fun z => z) (fun c fs p => p) fun d ρ1 v S1 H1 st1 rel1 q1 P1 => ?_)
  have P1 : Post X W S H os σ os2 (RLC X.K (e :: es).length 0) Q ((g ρ1).bind fun q => .ok (d :: q.1, q.2)) := P1
  refine ka S1 σ H1 ρ1 _ rel1 (Post.seq P1 (fun z => z) (fun c fs p S' H' cls dd x q => p S' H' cls dd (st1.ext.trans x st1.own) q) fun ds ρ2 vs S2 H2 st2 rel2 q2 P2 => ?_)
  have P2 : Post X W S H os σ os2 (RLC X.K (e :: es).length 0) Q (.ok (d :: ds, ρ2)) := P2
  obtain ⟨q2, l2⟩ := q2
  have q1 : OwnAt X.K S1 H1 v d ∧ ∀ a, v = .ref a → H a = none := q1
  obtain ⟨q1, fr⟩ := q1
  have nown1 : ∀ a, v = .ref a → ¬ Own os1 σ a := fun a ea ⟨i, hi, hs⟩ => by
    obtain ⟨_, o, eo⟩ := rel.owned ⟨i, getD_le hle hi, hs⟩
    rw [fr a ea] at eo; cases eo
  have q3 : OwnAt X.K S2 H2 v d := q1.ext st2.ext nown1
  refine P2 _ S2 H2 (st1.trans st2) rel2 ⟨by rw [List.length_cons, List.length_cons, q2.length, l2], by rw [List.length_cons, List.length_cons, l2], ⟨v, d, rfl, rfl, q3, fr⟩, fun j d' hj ed => ?_⟩
  cases j with
  | zero => exact (hj rfl).elim
  | succ j => exact q2.get (i := j) (by simpa using ed)
theorem vc_there {k : Nat} {g : Rho → Out (List D × Rho)} (ha : VE X W os e f os1 false) (hb : VC X W os1 es k g os2) (hs : starEach (e :: es) X.env = (false, eval e X.env) :: starEach es X.env := by rfl) : VC X W os (e :: es) (k + 1) (aCons f g) os2 := by
  obtain ⟨ta, pa, ka⟩ := ha
  obtain ⟨tb, pb, kb⟩ := hb
  refine ⟨_, pa_cons pa pb hs, fun S σ H ρ Q rel P => ?_⟩
  refine ka S σ H ρ _ rel (Post.seq P (fun z => z) (fun c fs p => p) fun d ρ1 v S1 H1 st1 rel1 q1 P1 => ?_)
  have P1 := P1.step RLC.ok st1
  refine kb S1 σ H1 ρ1 _ rel1 (Post.seq P1 (fun z => z) (fun c fs p => p) fun d2 ρ2 v2 S2 H2 st2 rel2 q2 P2 => ?_)
  obtain ⟨h1, h2, ⟨u, du, h3, h4, h5, h6⟩, h7⟩ := q2
  refine P2 _ S2 H2 st2 rel2 ⟨by rw [List.length_cons, List.length_cons, h1], by rw [List.length_cons, List.length_cons, h2], ⟨u, du, by simpa using h3, by simpa using h4, h5, h6⟩, fun j d' hj ed => ?_⟩
  cases j with
  | zero => cases (show some d = some d' by simpa using ed); exact ⟨v, rfl, At.mono st2.ext.s q1⟩
  | succ j => simpa using h7 j d' (fun z => hj (by rw [z])) (by simpa using ed)
theorem ve_callC {r : Bool} {x : Str} {kk k : Nat} {fa : Addr} {fd : FuncData} {ps : List Str} {m : List D → Out (D × D)} {g : Rho → Out (List D × Rho)} (F : FnOk X.prog X.w X.K X.mg X.base (L2.CX X.prog X.w) kk fa fd ps (spec X.K X.mg (es.length + 1) (some k) r m)) (tk : Takes X W)
    (hr : Room kk X.A) (hm : X.mg x = some (.ref fa)) (hk : PySem.W.keepIn X.K (.ref fa) = true) (hb : Binds X.K fd ps []) (ha : VC X W os (e :: es) k g os1) (hle : Le os1 os := by rfl) (hg : Gl X x := by rfl) (hdb : (x == ("__debug__" : Str)) = false := by decide)
    (he : starEach (e :: es) X.env = (false, eval e X.env) :: starEach es X.env := by rfl) (hpl : (backTo pos (starEach es X.env)).any (·.1) = false := by rfl) :
    VE X W os (.Call (.Name x p) (e :: es) [] pos) (eCall m g) os1 r := by
  obtain ⟨ta, pa, ka⟩ := ha
  refine ⟨_, pe_callS F hr hg hm hk hb (fun σ => passAt tk σ) pa hdb he hpl, fun S σ H ρ Q rel P => ?_⟩
  refine ka S σ H ρ _ rel (Post.seq P (fun z => z) (fun c fs p => p) fun ds ρ1 vs S1 H1 st rel1 q1 P1 => ?_)
  have P1 : Post X W S H os σ os1 (RV X.K r) Q ((m ds).bind fun c => .ok (c.1, ρ1)) := P1
  obtain ⟨l1, l2, ⟨u, du, ku, kd, q3, fr⟩, q1⟩ := q1
  refine ⟨by rw [l1, List.length_cons], S1, ds, ⟨rel1.sub, by rw [List.length_map, List.length_map, l1, l2], fun j x y e1 e2 => ?_, fun j j' a h1 h2 _ _ => by rw [osP_get.mp h1, osP_get.mp h2]⟩, ?_⟩
  · rw [List.getElem?_map] at e1 e2
    by_cases hj : j = k
    · subst hj
      rw [osP_get.mpr rfl]
      rw [ku] at e1
      rw [kd] at e2
      cases e1; cases e2
      exact q3
    · have hf : (osP (some k)).getD j false = false := by
        cases h : (osP (some k)).getD j false
        · rfl
        · exact (hj (osP_get.mp h)).elim
      rw [hf]
      cases ed : ds[j]? with
      | none => rw [ed] at e2; cases e2
      | some d' =>
        obtain ⟨w, ew, hw⟩ := q1 j d' hj ed
        rw [ed] at e2; rw [ew] at e1
        cases e1; cases e2
        exact hw
  · have conv : ∀ a, Own (osP (some k)) (vs.map some) a → u = .ref a := fun a ⟨j, h1, h2⟩ => by
      have hj := osP_get.mp h1
      subst hj
      rw [List.getElem?_map, ku] at h2
      cases h2
      rfl
    have sub : ∀ a, Own (osP (some k)) (vs.map some) a → Own os σ a ∨ H a = none := fun a h => .inr (fr a (conv a h))
    cases hmd : m ds with
    | stuck => rw [hmd] at P1; exact P1.elim
    | exc c fs =>
      rw [hmd] at P1
      exact fun S' H' cls dd x q => P1 S' H' cls dd (st.ext.trans x sub) q
    | ok z =>
      rw [hmd] at P1
      intro w S' H' x q _
      refine P1 w S' H' ⟨st.ext.trans x sub, fun a q => st.own a q⟩ (rel1.grow x fun a h z => ?_) (RV.ok _ _ _ _ _ _ st.ext.there q)
      obtain ⟨i, hi, hs⟩ := h
      have ea := conv a z
      obtain ⟨_, o, eo⟩ := rel.owned ⟨i, getD_le hle hi, hs⟩
      rw [fr a ea] at eo; cases eo
end
end SW

set_option maxRecDepth 100000
/-! SW40: x[e] = a new list; x[y][z] = u: a store into a list within an owned list. -/
namespace SW
open PySem PySem.Spec PyProof.Rows L2

def sDeep (i iy iz iu : Nat) (f fi : Rho → Out (D × Rho)) : Rho → Out Fl := fun ρ => (f ρ).bind fun p => match p.2.getD i none with
  | none => .stuck
  | some _ => (fi p.2).bind fun q => match q.2.getD i none, q.1, p.1, q.2.getD iy none, q.2.getD iz none, q.2.getD iu none with
    | some (.lst ds), .int k, .lst row, some (.int k2), some (.int m), some dw => (match ixN ds.length k, ixN ds.length k2, ixN row.length m with
      | some j, some j2, some jm => if j = j2 then .ok (.nx (q.2.set i (some (.lst (ds.set j (.lst (row.set jm dw))))))) else .stuck
      | _, _, _ => .stuck)
    | _, _, _, _, _, _ => .stuck
theorem sDeep_some {i iy iz iu : Nat} {d d2 : D} {ρ2 ρ' : Rho} (h : (match ρ2.getD i none, d2, d, ρ2.getD iy none, ρ2.getD iz none, ρ2.getD iu none with
  | some (.lst ds), .int k, .lst row, some (.int k2), some (.int m), some dw => (match ixN ds.length k, ixN ds.length k2, ixN row.length m with
    | some j, some j2, some jm => if j = j2 then (Out.ok (Fl.nx (ρ2.set i (some (.lst (ds.set j (.lst (row.set jm dw))))))) : Out Fl) else .stuck
    | _, _, _ => .stuck)
  | _, _, _, _, _, _ => .stuck) ≠ .stuck) : ∃ ds k row k2 m dw j jm, ρ2.getD i none = some (.lst ds) ∧ d2 = .int k ∧ d = .lst row ∧ ρ2.getD iy none = some (.int k2) ∧ ρ2.getD iz none = some (.int m) ∧ ρ2.getD iu none = some dw ∧ ixN ds.length k = some j ∧ ixN ds.length k2 = some j ∧ ixN row.length m = some jm := by
  split at h
  · rename_i e1 e2 e3 e4
    split at h
    · rename_i j j2 jm q1 q2 q3
      split at h
      · rename_i e
        subst e
        exact ⟨_, _, _, _, _, _, _, _, e1, rfl, rfl, e2, e3, e4, q1, q2, q3⟩
      · exact (h rfl).elim
    · exact (h rfl).elim
  · exact (h rfl).elim
theorem ixN_lt {n : Nat} {k : Int} {j : Nat} (h : ixN n k = some j) : j < n := by
  unfold ixN at h
  split at h
  · split at h
    · cases h; omega
    · cases h
  · split at h
    · cases h; omega
    · cases h
section
variable {X : Cx} {W : WX} {L : Lc} {os osN : Os} {e ie : Expr} {rest : List Stmt} {f fi : Rho → Out (D × Rho)} {g : Rho → Out Fl} {pos pos2 ps ps2 ps3 px px2 py pz pu : Pos}
theorem vss_deep (i iy iz iu : Nat) {x y z u : Str} (hv : VE X W os e f os true) (hi : VE X W os ie fi os false) (b : VSs X W L os rest g osN)
    (ho : os.getD i false = true := by rfl) (hoy : os.getD iy false = false := by rfl) (hoz : os.getD iz false = false := by rfl) (hou : os.getD iu false = false := by rfl)
    (hN : X.N[i]? = some x := by rfl) (hNy : X.N[iy]? = some y := by rfl) (hNz : X.N[iz]? = some z := by rfl) (hNu : X.N[iu]? = some u := by rfl)
    (hvis : Vis X.env.scope x := by first | exact Or.inl rfl | exact Or.inr (Or.inl rfl) | exact Or.inr (Or.inr rfl)) (hvy : Vis X.env.scope y := by first | exact Or.inl rfl | exact Or.inr (Or.inl rfl) | exact Or.inr (Or.inr rfl))
    (hvz : Vis X.env.scope z := by first | exact Or.inl rfl | exact Or.inr (Or.inl rfl) | exact Or.inr (Or.inr rfl)) (hvu : Vis X.env.scope u := by first | exact Or.inl rfl | exact Or.inr (Or.inl rfl) | exact Or.inr (Or.inr rfl))
    (hd : (x == ("__debug__" : Str)) = false := by decide) (hcd : (x == ("__classdict__" : Str)) = false := by decide) (hdy : (y == ("__debug__" : Str)) = false := by decide) (hcdy : (y == ("__classdict__" : Str)) = false := by decide)
    (hdz : (z == ("__debug__" : Str)) = false := by decide) (hcdz : (z == ("__classdict__" : Str)) = false := by decide) (hdu : (u == ("__debug__" : Str)) = false := by decide) (hcdu : (u == ("__classdict__" : Str)) = false := by decide)
    (ha : ∀ v, assign (.Subscript (.Name x px) ie ps) X.env v = (do
      let ov ← holding [v] (eval (.Name x px) X.env)
      let iv ← holding [v, ov] (eval ie X.env)
      standAt ps
      holding [v, ov, iv] (setItem ov iv v)
      release [v, ov, iv] []) := by intro _; rfl) (hs : swapsWithSole [.Subscript (.Name x px) ie ps] e pos.line X.env = pure false := by rfl) (hw : swappedStores [.Subscript (.Name x px) ie ps] e X.env = pure none := by rfl)
    (h1 : (assignEach [.Subscript (.Name x px) ie ps] X.env).map (·.2) = [assign (.Subscript (.Name x px) ie ps) X.env] := by rfl)
    (hpl : PlainIx (.Name y py) := by exact fun _ _ => rfl)
    (ha2 : ∀ v, assign (.Subscript (.Subscript (.Name x px2) (.Name y py) ps2) (.Name z pz) ps3) X.env v = (do
      let ov ← holding [v] (eval (.Subscript (.Name x px2) (.Name y py) ps2) X.env)
      let iv ← holding [v, ov] (eval (.Name z pz) X.env)
      standAt ps3
      holding [v, ov, iv] (setItem ov iv v)
      release [v, ov, iv] []) := by intro _; rfl) (hs2 : swapsWithSole [.Subscript (.Subscript (.Name x px2) (.Name y py) ps2) (.Name z pz) ps3] (.Name u pu) pos2.line X.env = pure false := by rfl) (hw2 : swappedStores [.Subscript (.Subscript (.Name x px2) (.Name y py) ps2) (.Name z pz) ps3] (.Name u pu) X.env = pure none := by rfl)
    (h12 : (assignEach [.Subscript (.Subscript (.Name x px2) (.Name y py) ps2) (.Name z pz) ps3] X.env).map (·.2) = [assign (.Subscript (.Subscript (.Name x px2) (.Name y py) ps2) (.Name z pz) ps3) X.env] := by rfl) :
    VSs X W L os (.Assign [.Subscript (.Name x px) ie ps] e pos :: .Assign [.Subscript (.Subscript (.Name x px2) (.Name y py) ps2) (.Name z pz) ps3] (.Name u pu) pos2 :: rest) (sSeq (sDeep i iy iz iu f fi) g) osN := by
  obtain ⟨t, pt, kt⟩ := hv
  obtain ⟨ti, pi, ki⟩ := hi
  obtain ⟨tr, pr, kr⟩ := b
  have p1 := ps_asg pt (pg_sub (pe_var hN hvis hd hcd) pi set_list ha) hs hw h1
  have p2 := ps_asg (pos := pos2) (pe_var (pos := pu) hNu hvu hdu hcdu) (pg_sub (pe_ix ix_seq (pe_var (pos := px2) hN hvis hd hcd) (pe_var hNy hvy hdy hcdy) hpl) (pe_var (pos := pz) hNz hvz hdz hcdz) set_list ha2) hs2 hw2 h12
  refine ⟨_, pss_cons p1 (pss_cons p2 pr), fun S σ H ρ Ds rel P => ?_⟩
  refine kt S σ H ρ _ rel ?_
  unfold sSeq sDeep at P
  cases hf : f ρ with
  | stuck => rw [hf] at P; exact P.elim
  | exc c fs => rw [hf] at P; exact fun S' H' cls dd xx q => P σ S' H' cls dd xx q
  | ok z0 =>
    obtain ⟨d, ρ1⟩ := z0
    rw [hf] at P
    intro v S1 H1 st1 r1 q1
    obtain ⟨q1, fr⟩ := (show OwnAt X.K S1 H1 v d ∧ ∀ a, v = .ref a → H a = none from q1)
    rw [bind_ok] at P
    dsimp only at P
    cases hx : ρ1.getD i none with
    | none => rw [hx] at P; exact P.elim
    | some d1 =>
    rw [hx] at P
    dsimp only at P
    obtain ⟨w, ew, _⟩ := r1.own (getD_some hx) ho
    refine ⟨w, ew, ?_⟩
    refine ki S1 σ H1 ρ1 _ r1 ?_
    cases hfi : fi ρ1 with
    | stuck => rw [hfi] at P; exact P.elim
    | exc c fs => rw [hfi] at P; exact fun S' H' cls dd xx q => P σ S' H' cls dd (st1.ext.trans xx st1.own) q
    | ok z1 =>
      obtain ⟨d2, ρ2⟩ := z1
      rw [hfi, bind_ok] at P
      intro v2 S2 H2 st2 r2 q2
      have q2 : At X.K S2 v2 d2 := q2
      have st := st1.trans st2
      obtain ⟨ds, k, row, k2, m, dw, j, jm, e1, rfl, rfl, e2, e3, e4, n1, n2, n3⟩ := sDeep_some (i := i) (iy := iy) (iz := iz) (iu := iu) (d := d) (d2 := d2) (ρ2 := ρ2) (ρ' := ρ2) fun z => by
        dsimp only at P
        rw [z] at P
        exact P
      dsimp only at P
      rw [e1, e2, e3, e4] at P
      dsimp only at P
      rw [n1, n2, n3] at P
      dsimp only at P
      rw [if_pos rfl, bind_ok] at P
      dsimp only at P
      cases q2
      -- the owned list
      obtain ⟨u', eu', hown⟩ := r2.own (getD_some e1) ho
      rw [ew] at eu'
      cases eu'
      obtain ⟨a, rfl, na, o, eh, bd⟩ := hown
      -- the new one
      have nown : ∀ c, v = .ref c → ¬ Own os σ c := fun c ec z => by
        obtain ⟨o, d, eh, _⟩ := rel.ownBody z
        rw [fr c ec] at eh; cases eh
      obtain ⟨c, rfl, nc, oc, ec, bc⟩ := q1.ext st2.ext nown
      have hcn := fr c rfl
      have hca : c ≠ a := fun z => nown c rfl ⟨i, ho, by rw [ew, z]⟩
      -- the slots that are read
      obtain ⟨vy, evy, hy⟩ := r2.val (getD_some e2) hoy
      obtain ⟨vz, evz, hz⟩ := r2.val (getD_some e3) hoz
      obtain ⟨vu, evu, hu⟩ := r2.val (getD_some e4) hou
      cases hy
      cases hz
      cases bd with
      | @lst vs _ zl rl =>
      cases bc with
      | @lst cs _ zc rc =>
      refine ⟨a, vs, k, j, rfl, rfl, eh, by rw [rl.length]; exact n1, ?_⟩
      have h3a : upd H2 a (.lst (vs.set j (.ref c))) a = some (.lst (vs.set j (.ref c))) := upd_same
      have h3c : upd H2 a (.lst (vs.set j (.ref c))) c = some (.lst cs) := by rw [upd_ne hca]; exact ec
      have hjl : j < vs.length := by rw [rl.length]; exact ixN_lt n1
      refine ⟨vu, evu, .ref a, ew, .int k2, evy, .inl ⟨a, vs.set j (.ref c), k2, .ref c, rfl, rfl, SqL.of h3a, ?_, ?_⟩⟩
      · unfold atI
        rw [List.length_set, rl.length, n2]
        show (vs.set j (V.ref c))[j]? = _
        rw [List.getElem?_set_self hjl]
      · refine ⟨.int m, evz, c, cs, m, jm, rfl, rfl, h3c, by rw [rc.length]; exact n3, ?_⟩
        -- the heap behind both stores
        have eH : upd (upd H2 a (.lst (vs.set j (.ref c)))) c (.lst (cs.set jm vu)) = upd (upd H2 c (.lst (cs.set jm vu))) a (.lst (vs.set j (.ref c))) := by
          funext b
          unfold upd
          by_cases h1 : b = c
          · subst h1
            rw [if_pos rfl, if_neg hca, if_pos rfl]
          · rw [if_neg h1]
            by_cases h2 : b = a
            · rw [if_pos h2, if_pos h2]
            · rw [if_neg h2, if_neg h2, if_neg h1]
        rw [eH]
        have xx : Ext (fun b => b = c) S2 H2 (upd S2 c (.lst (cs.set jm vu))) (upd H2 c (.lst (cs.set jm vu))) := by
          refine ⟨fun b o e => ?_, fun b o e => ?_, fun b o e n no => ?_, fun b e => ?_⟩
          · rw [upd_ne fun z => by rw [z, nc] at e; cases e]; exact e
          · by_cases hb : b = c
            · subst hb; rw [upd_same] at e ⊢; exact e
            · rw [upd_ne hb] at e ⊢; exact r2.sub b o e
          · rw [upd_ne no, upd_ne no]; exact ⟨e, n⟩
          · by_cases hb : b = c
            · subst hb; rw [upd_same] at e; cases e
            · rw [upd_ne hb] at e; exact e
        have r3 := r2.grow xx fun b hb e => nown c rfl (by rw [← e]; exact hb)
        have st3 : Stp os σ S H os σ (upd S2 c (.lst (cs.set jm vu))) (upd H2 c (.lst (cs.set jm vu))) := by
          refine ⟨⟨st.ext.s.trans xx.s, xx.sh, fun b o e n no => ?_, fun b e => st.ext.there b (xx.there b e)⟩, fun b q => .inl q⟩
          obtain ⟨g1, g2⟩ := st.ext.fr b o e n no
          have hb : b ≠ c := fun z => by rw [z, hcn] at e; cases e
          rw [upd_ne hb, upd_ne hb]; exact ⟨g1, g2⟩
        have hAc : At X.K (upd S2 c (.lst (cs.set jm vu))) (.ref c) (.lst (row.set jm dw)) := .lst upd_same (by rw [List.length_set]; exact zc) ((rc.set jm hu).mono xx.s)
        have na3 : upd S2 c (.lst (cs.set jm vu)) a = none := by rw [upd_ne (Ne.symm hca)]; exact na
        obtain ⟨r4, st4⟩ := turnL r3 ho ew na3 (vs := vs.set j (.ref c)) (ds := ds.set j (.lst (row.set jm dw))) (by rw [List.length_set]; exact zl) ((rl.mono xx.s).set j hAc)
        have st5 := st3.trans st4
        refine kr _ σ _ _ Ds r4 ?_
        exact P.step st5 FixOn.refl
end
end SW

set_option maxRecDepth 100000
/-! SW41: {k: v, ..}: a dict display whose keys are tuples. -/
namespace SW
open PySem PySem.Spec PyProof.Rows L2
section
variable {prog : Program} {w : World} {A : Around} {E : Value → Shared → Prop} {s : Shared} {K : Type} [DecidableEq K] {knd : HeapKind prog w K}
theorem wpAny_Dict_pairsO {env : Env} {keys : List (Option Expr)} {values : List Expr} {pos : Pos} {pairs : List (Sem Value × Sem Value)} {Q : Value → Shared → Prop} (hu : knd.room A)
    (hshape : (evalEachOpt keys env).zip ((evalEach values env).map fun v => do let x ← v; standAt pos; pure x) = pairs.map fun p => (some p.1, p.2)) (h0 : pairs ≠ []) (hlen : pairs.length ≤ 15)
    (h : wpAny (model prog w) A (evalPairs pairs) (fun vs s₁ => ∃ ps, CarriesH knd s₁.heap vs ps ∧ s₁.heap.DictOfH knd s.heap.objs.size [] ∧
      ∀ h' tk, h'.DictOfH knd s.heap.objs.size (storedAllH [] ps) → Heap.SameBut s.heap.objs.size s₁.heap h' → Q (.ref s.heap.objs.size) { s₁ with heap := h', toks := tk }) E
      { s with heap := s.heap.push { cls := .type "dict", data := .dict #[] } }) :
    wpAny (model prog w) A (eval (.Dict keys values pos) env) Q E s := by
  rw [arm_eval_Dict, hshape, dictDisplay_pairs pairs h0 (by omega)]
  exact wpAny_bind (wpAny_standAt (wpAny_bind (wpAny_subDictH (knd := knd) (Q := fun d s' => wpAny (model prog w) A (pure (Value.ref d)) Q E s') hu hlen
    (wpAny_mono h (fun vs s₁ h₁ => by obtain ⟨ps, hc, hm, hq⟩ := h₁; exact ⟨ps, hc, hm, fun h' tk a b => wpAny_pure (hq h' tk a b)⟩) fun _ _ e => e))))
end
def storeAllV (zs acc : XL) : XL := zs.foldl (fun a z => storeX a z.1 z.2.1 z.2.2) acc
theorem xr_allV : ∀ {zs : XL} {ys : List (NestedKey × Addr × Value)}, XR zs ys → ∀ {xs : XL} {xs' : List (NestedKey × Addr × Value)}, XR xs xs' → XR (storeAllV zs xs) (storedAllH xs' ys)
  | _, _, .nil, _, _, r => r
  | (k, b, v) :: zs, (k', b', u) :: ys, .cons h t, xs, xs', r => by
    obtain ⟨h1, h2, h3⟩ := h
    obtain rfl : k = k' := h1
    obtain rfl : b = b' := h2
    have r2 : XR (storeX xs k b v) (storedH xs' k b u) := r.store k b h3
    exact xr_allV t r2
theorem storeAllV_mem : ∀ {zs acc : XL} {p : NestedKey × Addr × V}, p ∈ storeAllV zs acc → (∃ z ∈ zs, p.1 = z.1) ∨ ∃ q ∈ acc, p.1 = q.1
  | [], acc, p, h => .inr ⟨p, h, rfl⟩
  | z :: zs, acc, p, h => by
    rcases storeAllV_mem (zs := zs) (acc := storeX acc z.1 z.2.1 z.2.2) h with ⟨y, hy, e⟩ | ⟨q, hq, e⟩
    · exact .inl ⟨y, List.mem_cons_of_mem _ hy, e⟩
    · rcases storeX_mem hq with ⟨e2, _⟩ | ⟨q2, hq2, e2, _⟩
      · exact .inl ⟨z, List.mem_cons_self, by rw [e, e2]⟩
      · exact .inr ⟨q2, hq2, by rw [e, ← e2]⟩
theorem xd_allV {K : PySem.W.Frag} {S : Hp} : ∀ {zs : XL} {l : List (NestedKey × D)}, XD K S zs l → (∀ z ∈ zs, keyT (keyB z.1) = some z.1) → ∀ {xs : XL} {ds : List (NestedKey × D)}, XD K S xs ds → (∀ p ∈ xs, keyT (keyB p.1) = some p.1) → XD K S (storeAllV zs xs) (putAll l ds) ∧ ∀ p ∈ storeAllV zs xs, keyT (keyB p.1) = some p.1
  | _, _, .nil, _, _, _, r, hk => ⟨r, hk⟩
  | z :: zs, q :: l, .cons h t, hz, xs, ds, r, hk => by
    obtain ⟨h1, h2, h3⟩ := h
    have r2 : XD K S (storeX xs z.1 z.2.1 z.2.2) (putD ds q.1 q.2) := by rw [h1]; exact XD.store r h2 h3
    exact xd_allV t (fun y hy => hz y (List.mem_cons_of_mem _ hy)) r2 (store_kk hk (hz z List.mem_cons_self))
abbrev KPs (K : PySem.W.Frag) (H : Hp) : List (V × V) → XL → Prop := Paired fun pr z => pr.1 = .ref z.2.1 ∧ pr.2 = z.2.2 ∧ KeyAt K H z.2.1 z.1
section
variable {X : Cx} {pins : List (Addr × Obj)} {σ : L2.St} {H : Hp} {s : Shared}
theorem carryH (I : Inv X pins σ H s) : ∀ {ps : List (V × V)} {ws : List (Value × Value)} {zs : XL}, VV ps ws → KPs X.K H ps zs → ∃ ys, CarriesH (nestedKind X.prog X.w) s.heap ws ys ∧ XR zs ys
  | [], _, _, .nil, .nil => ⟨[], True.intro, .nil⟩
  | p :: ps, q :: ws, z :: zs, .cons h t, .cons g u => by
    obtain ⟨ys, c, x⟩ := carryH I t u
    obtain ⟨h1, h2⟩ := h
    obtain ⟨g1, g2, g3⟩ := g
    rw [g1] at h1
    rw [g2] at h2
    have h1 : q.1 = Value.ref z.2.1 := h1
    exact ⟨(z.1, z.2.1, q.2) :: ys, ⟨h1, rfl, g3.is I, c⟩, .cons ⟨rfl, rfl, h2⟩ x⟩
def tDispT (K : PySem.W.Frag) (trs : List (TE × TE)) : TE := fun σ H Q => ∀ p y0, H p = none → NewX p [] y0 → tPairs trs σ (upd H p (DT p y0)) fun ps H2 => H2 p = some (DT p y0) ∧ ∃ zs : XL, KPs K H2 ps zs ∧ ∀ y, NewX p (storeAllV zs []) y → Q (.ref p) (upd H2 p (DT p y))
theorem pe_dispT {pos : Pos} {keys : List (Option Expr)} {values : List Expr} {trs : List (TE × TE)} (hu : X.A.units + 64 < cLine) (h : PPs X pos keys values trs) (hall : keys.all (·.isSome) = true) (hl : keys.length = values.length) (h0 : keys ≠ [])
    (h15 : keys.length ≤ 15) : PE X (.Dict keys values pos) (tDispT X.K trs) := by
  refine ⟨fun pins s σ H Q I q => ?_⟩
  have hn := I.hok.fresh (Nat.le_refl s.heap.objs.size)
  have ho : (s.heap.push { cls := .type "dict", data := .dict #[] }).get? s.heap.objs.size = some { cls := .type "dict", data := .dict #[] } := Heap.get?_push_size _ rfl
  have I1 := I.laid (a := s.heap.objs.size) (o := DT s.heap.objs.size ⟨{ cls := .type "dict", data := .dict #[] }, []⟩) (t' := s.toks) (fun _ _ q => Heap.get?_push_of_some _ q) (Nat.le_refl _) (dt_ok ho)
  have n0 : NewX s.heap.objs.size [] ⟨{ cls := .type "dict", data := .dict #[] }, []⟩ := ⟨rfl, beq_eq_false_iff_ne.mpr (Ne.symm (Nat.ne_of_lt I.big)), ⟨rfl, rfl, rfl⟩, List.nodup_nil, #[], 0, rfl, .nil⟩
  have hpl := pairTrees_length keys values X.env pos hall hl
  refine wpAny_Dict_pairsO (knd := nestedKind X.prog X.w) (pairs := pairTrees keys values X.env pos) (by show X.A.units + 8 < cLine; omega) (zip_pairTrees keys values X.env pos hall hl) (fun e => h0 (List.length_eq_zero_iff.mp (by rw [← hpl, e]; rfl))) (by rw [hpl]; exact h15) (thn (h.run pins _ σ _ _ I1 (q _ _ hn n0)) fun ws s2 ⟨ps, H2, I2, rel, e, zs, hz, q2⟩ => ?_)
  obtain ⟨ys, hc, xr⟩ := carryH I2 rel hz
  obtain ⟨t0, r0⟩ := n0.tok (K := X.K) (S := fun _ => none) (ds := []) .nil fun p hp => by cases hp
  have g : DGood X.K H2 s.heap.objs.size ⟨{ cls := .type "dict", data := .dict #[] }, []⟩ := good_of e t0 (Nat.zero_le _) r0 (fun a o z => by cases z)
  obtain ⟨ys0, r1, dd, _, _⟩ := g.dict I2
  cases r1
  refine ⟨ys, hc, dd, fun h' tk dd' hs => ?_⟩
  have hkf : ∀ z ∈ zs, KFree z.1 := by
    clear q2 xr hc
    intro z hz2
    have : ∀ {ps : List (V × V)} {zs : XL}, KPs X.K H2 ps zs → ∀ z ∈ zs, KFree z.1 := by
      intro ps zs h
      induction h with
      | nil => intro z hz; cases hz
      | cons h t ih =>
        intro z hz
        rcases List.mem_cons.mp hz with rfl | hz
        · exact h.2.2.free
        · exact ih z hz
    exact this hz z hz2
  obtain ⟨y, ny, hoy⟩ := new_x (X := X) g.sys dd' (xr_allV xr .nil) fun p hp => by
    rcases storeAllV_mem hp with ⟨z, hz2, e2⟩ | ⟨_, hq, _⟩
    · rw [e2]; exact hkf z hz2
    · cases hq
  exact ⟨.ref s.heap.objs.size, _, d_write I2 (by rw [e]; exact True.intro) hs ⟨_, hoy⟩ (dt_ok hoy), rfl, q2 y ny⟩
end
/-! the judgement -/
def flatP : List (V × V) → List V
  | [] => []
  | p :: r => p.1 :: p.2 :: flatP r
def dispD : List D → Option (List (NestedKey × D))
  | [] => some []
  | [_] => none
  | k :: v :: r => match keyT k, dispD r with
    | some kk, some l => some ((kk, v) :: l)
    | _, _ => none
theorem disp_all {K : PySem.W.Frag} {S H : Hp} (sub : Same S H) : ∀ {ps : List (V × V)} {ds : List D} {l : List (NestedKey × D)}, AtL K S (flatP ps) ds → dispD ds = some l → ∃ zs, KPs K H ps zs ∧ XD K S zs l ∧ (∀ z ∈ zs, keyT (keyB z.1) = some z.1) ∧ zs.length = ps.length
  | [], _, _, .nil, h => by cases h; exact ⟨[], .nil, .nil, (fun z hz => by cases hz), rfl⟩
  | p :: ps, k :: v :: ds, l, .cons h1 (.cons h2 t), h => by
    unfold dispD at h
    split at h
    · rename_i kk l' e1 e2
      cases h
      obtain ⟨zs, g1, g2, g3, g4⟩ := disp_all sub t e2
      obtain ⟨b, eb, hb⟩ := at_key h1 e1
      refine ⟨(kk, b, p.2) :: zs, .cons ⟨eb, rfl, S, _, sub, hb, keyT_back e1⟩ g1, .cons ⟨rfl, hb, h2⟩ g2, fun z hz => ?_, by rw [List.length_cons, List.length_cons, g4]⟩
      rcases List.mem_cons.mp hz with rfl | hz
      · exact keyT_back e1
      · exact g3 z hz
    · cases h
def RP (K : PySem.W.Frag) (n : Nat) : RR (List D) (List (V × V)) := fun _ S' _ ps ds => AtL K S' (flatP ps) ds ∧ ps.length = n
theorem RP.ok {K : PySem.W.Frag} {n : Nat} : (RP K n).Ok := fun _ _ _ _ _ _ _ q => q
section
variable {X : Cx} {W : WX} {os os1 os2 os3 : Os} {pos : Pos} {keys : List (Option Expr)} {values : List Expr} {k v : Expr} {f1 f2 : Rho → Out (D × Rho)} {g : Rho → Out (List D × Rho)}
def VP (X : Cx) (W : WX) (pos : Pos) (os : Os) (keys : List (Option Expr)) (values : List Expr) (g : Rho → Out (List D × Rho)) (os' : Os) : Prop :=
  ∃ trs, PPs X pos keys values trs ∧ ∀ S σ H ρ Q, Rel X.K S H os σ ρ → Post X W S H os σ os' (RP X.K keys.length) Q (g ρ) → tPairs trs σ H Q
theorem vp_nil : VP X W pos os [] [] aNil os := ⟨_, pps_nil, fun S σ H ρ Q rel P => P.fin (os' := os) rel ⟨.nil, rfl⟩⟩
theorem vp_cons (ha : VE X W os k f1 os1 false) (hb : VE X W os1 v f2 os2 false) (hc : VP X W pos os2 keys values g os3) : VP X W pos os (some k :: keys) (v :: values) (aCons f1 (aCons f2 g)) os3 := by
  obtain ⟨t1, p1, k1⟩ := ha
  obtain ⟨t2, p2, k2⟩ := hb
  obtain ⟨trs, p3, k3⟩ := hc
  refine ⟨_, pps_cons p1 p2 p3, fun S σ H ρ Q rel P => ?_⟩
  refine k1 S σ H ρ _ rel (Post.seq P (fun z => z) (fun c fs p => p) fun d ρ1 x S1 H1 st1 rel1 q1 P1 => ?_)
  have P1 : Post X W S1 H1 os1 σ os3 (RP X.K (some k :: keys).length) Q ((aCons f2 g ρ1).bind fun q => .ok (d :: q.1, q.2)) := P1.step RP.ok st1
  have P1 : Post X W S1 H1 os1 σ os3 (RP X.K (some k :: keys).length) Q ((f2 ρ1).bind fun p => (g p.2).bind fun q => .ok (d :: p.1 :: q.1, q.2)) := by
    unfold aCons at P1
    cases e : f2 ρ1 with
    | ok z =>
      rw [e] at P1
      rw [bind_ok] at P1 ⊢
      cases e2 : g z.2 with
      | ok y => rw [e2] at P1; exact P1
      | exc c fs => rw [e2] at P1; exact P1
      | stuck => rw [e2] at P1; exact P1
    | exc c fs => rw [e] at P1; exact P1
    | stuck => rw [e] at P1; exact P1
  refine k2 S1 σ H1 ρ1 _ rel1 (Post.seq P1 (fun z => z) (fun c fs p => p) fun d2 ρ2 y S2 H2 st2 rel2 q2 P2 => ?_)
  have P2 : Post X W S2 H2 os2 σ os3 (RP X.K (some k :: keys).length) Q ((g ρ2).bind fun q => .ok (d :: d2 :: q.1, q.2)) := P2.step RP.ok st2
  refine k3 S2 σ H2 ρ2 _ rel2 (Post.seq P2 (fun z => z) (fun c fs p => p) fun ds ρ3 ps S3 H3 st3 rel3 q3 P3 => ?_)
  obtain ⟨q3, l3⟩ := q3
  have q1 : At X.K S1 x d := q1
  have q2 : At X.K S2 y d2 := q2
  exact (P3.step RP.ok st3).fin (os' := os3) rel3 ⟨.cons ((q1.mono st2.ext.s).mono st3.ext.s) (.cons (q2.mono st3.ext.s) q3), by rw [List.length_cons, List.length_cons, l3]⟩
def eDisp (g : Rho → Out (List D × Rho)) : Rho → Out (D × Rho) := fun ρ => (g ρ).bind fun q => match dispD q.1 with
  | some l => .ok (.dct (putAll l []), q.2)
  | none => .stuck
theorem ve_disp (hu : X.A.units + 64 < cLine) (h : VP X W pos os keys values g os1) (hall : keys.all (·.isSome) = true := by rfl) (hl : keys.length = values.length := by rfl) (h0 : keys ≠ [] := by exact List.cons_ne_nil _ _) (h15 : keys.length ≤ 15 := by decide) :
    VE X W os (.Dict keys values pos) (eDisp g) os1 true := by
  obtain ⟨trs, pp, kp⟩ := h
  refine ⟨_, pe_dispT hu pp hall hl h0 h15, fun S σ H ρ Q rel P p y0 hp n0 => ?_⟩
  have sp : S p = none := rel.sub.free hp
  have np : ¬ Own os σ p := fun z => by
    obtain ⟨o, d, eh, _⟩ := rel.ownBody z
    rw [hp] at eh; cases eh
  refine kp S σ _ ρ _ (rel.newO hp) ?_
  unfold eDisp at P
  have x0 : Ext (Own os σ) S H S (upd H p (DT p y0)) := (Ext.newO rel.sub hp)
  cases e : g ρ with
  | stuck => rw [e] at P; exact P.elim
  | exc c fs =>
    rw [e] at P
    exact fun S' H' cls dd x q => P S' H' cls dd (x0.trans x fun c hc => .inl hc) q
  | ok z =>
    obtain ⟨ds, ρ1⟩ := z
    rw [e, bind_ok] at P
    dsimp only at P
    intro ps S1 H1 st1 r1 q1
    obtain ⟨q1, l1⟩ := q1
    cases hd : dispD ds with
    | none => rw [hd] at P; exact P.elim
    | some l =>
      rw [hd] at P
      dsimp only at P
      obtain ⟨h1p, s1p⟩ := st1.ext.fr p _ upd_same sp np
      obtain ⟨zs, g1, g2, g3, g4⟩ := disp_all r1.sub q1 hd
      refine ⟨h1p, zs, g1, fun y ny => ?_⟩
      obtain ⟨x1, x2⟩ := xd_allV g2 g3 (xs := []) (ds := []) .nil (fun p hp => by cases hp)
      obtain ⟨t, r⟩ := ny.tok x1 x2
      have hz : (putAll l []).length ≤ sizeLine := by
        have h1 := putAll_len l []
        have h2 : zs.length = l.length := Paired.length g2
        refine Nat.le_trans h1 (Nat.le_trans ?_ (sz1000 (Nat.le_refl _)))
        rw [List.length_nil]
        omega
      have no1 : ¬ Own os1 σ p := fun z => by
        rcases st1.own p z with q | q
        · exact np q
        · rw [upd_same] at q; cases q
      have xx : Ext (fun b => b = p) S1 H1 S1 (upd H1 p (DT p y)) := by
        refine ⟨Same.refl _, fun b o e => ?_, fun b o e n no => ⟨by rw [upd_ne no]; exact e, n⟩, fun b e => ?_⟩
        · have hb : b ≠ p := fun z => by rw [z, s1p] at e; cases e
          rw [upd_ne hb]; exact r1.sub b o e
        · by_cases hb : b = p
          · subst hb; rw [upd_same] at e; cases e
          · rw [upd_ne hb] at e; exact e
      have r2 := r1.grow xx fun a ha e => no1 (by rw [← e]; exact ha)
      refine P (.ref p) S1 _ ⟨⟨st1.ext.s, xx.sh, fun b o e n no => ?_, fun b e => ?_⟩, fun b q => ?_⟩ r2 ⟨.mkX s1p upd_same t hz r, fun a ea => by cases ea; exact hp⟩
      · have hb : b ≠ p := fun z => by rw [z, hp] at e; cases e
        obtain ⟨w1, w2⟩ := st1.ext.fr b o (by rw [upd_ne hb]; exact e) n no
        exact ⟨by rw [upd_ne hb]; exact w1, w2⟩
      · have hb : b ≠ p := fun z => by rw [z, upd_same] at e; cases e
        rw [upd_ne hb] at e
        have := st1.ext.there b e
        rw [upd_ne hb] at this
        exact this
      · rcases st1.own b q with z | z
        · exact .inl z
        · have hb : b ≠ p := fun w => by rw [w, upd_same] at z; cases z
          rw [upd_ne hb] at z
          exact .inr z
end
end SW

set_option maxRecDepth 100000
/-! SW42: x = [..] read off what is owned, as a look. -/
namespace SW
open PySem PySem.Spec PyProof.Rows L2
section
variable {X : Cx} {W : WX} {L : Lc} {os os2 : Os} {f : Rho → Out (D × Rho)}
theorem peekL_k {t : TE} (k : ∀ S σ H ρ Q, Rel X.K S H [] σ ρ → Post X W S H [] σ [] (RV X.K true) Q (f ρ) → t σ H Q) : ∀ S σ H ρ Q, Rel X.K S H os σ ρ → Post X W S H os σ os (RV X.K true) Q (ePeekL f ρ) → t σ H Q := by
  intro S σ H ρ Q rel P
  obtain ⟨S1, lk, rel1⟩ := freezeAll rel
  refine k S1 σ H ρ Q rel1 ?_
  unfold ePeekL at P
  cases h : f ρ with
  | exc c fs => rw [h] at P; exact fun S' H' cls dd x q => P S' H' cls dd (lk.exc x) q
  | stuck => rw [h] at P; exact P.elim
  | ok z =>
    obtain ⟨d, ρ'⟩ := z
    rw [h] at P
    cases d with
    | lst ds =>
      have P : Post X W S H os σ os (RV X.K true) Q (if tokL ds = true then .ok (.lst ds, ρ) else .stuck) := P
      split at P
      · rename_i hf
        intro v S' H' st _ hv
        obtain ⟨S2, h2, h3, rel2, st2⟩ := lk.backT rel st.ext
        obtain ⟨⟨a, rfl, na, o, ea, bd⟩, fr⟩ := (show OwnAt X.K S' H' v (.lst ds) ∧ ∀ a, v = .ref a → H a = none from hv)
        have no : ¬ Own os σ a := fun z => by
          obtain ⟨o, d, eh, _⟩ := rel.ownBody z
          rw [fr a rfl] at eh; cases eh
        cases bd with
        | lst z r => exact P _ S2 H' st2 rel2 ⟨⟨a, rfl, (h2 a no).trans na, _, ea, .lst z (tokL_drop (lk.noTup rel st.ext.s) h2 r hf)⟩, fr⟩
      · exact P.elim
    | _ => exact P.elim
variable {tg iter elt : Expr} {ifs : List Expr} {scope : Scope} {own : List (Str × Nat)} {fi : Rho → Out (List D × Rho)} {b : D → Rho → Option Rho} {ch : List Nat} {tt : Rho → Out (Bool × Rho)} {fe : Rho → Out (D × Rho)} {pos : Pos}
theorem vs_setLcT (i : Nat) {x : Str} {p spos : Pos} (ok : BlkOk X.N X.env.scope scope own) (hi : VI X W [] tg iter fi []) (hg : ∀ s H C cl fp, VG (blkX X scope s H C cl fp) [] tg b ch os2) (ht : ∀ s H C cl fp, VTs (blkX X scope s H C cl fp) W0 os2 ifs tt [])
    (he : ∀ s H C cl fp, VE (blkX X scope s H C cl fp) W0 [] elt fe [] false) (hN : X.N.Nodup) (hsw : swapsWith (.ListComp elt [⟨tg, iter, ifs, 0⟩] scope pos) (some (.Name x p)) spos.line X.env = pure true) (hx : X.N[i]? = some x := by rfl) (hxl : X.env.scope.names.lookup x = some .local := by rfl) (hfi : L.fx.getD i false = false := by rfl) (hio : i < os.length := by decide)
    (hch : ∀ i ∈ ch, i ∈ own.map (·.2) := by decide) (hv : (own.map (·.2)).all (fun v => !([] : Os).getD v false) = true := by rfl) (hc : X.calm = true := by rfl) (hs : ∀ x, foldedSetIterable iter X.env x = pure x := by intro _; rfl) :
    VS X W L os (.Assign [.Name x p] (.ListComp elt [⟨tg, iter, ifs, 0⟩] scope pos) spos) (sSet i (ePeekL (eComp (own.map (·.2)) fi b tt fe))) (os.set i true) := by
  obtain ⟨wi, pi, ki⟩ := hi
  obtain ⟨g, pg, kg⟩ := uniG hg
  obtain ⟨t1, pt, kt⟩ := uniT ht
  obtain ⟨te, pe, ke⟩ := uniE he
  refine ⟨_, ps_setLc hc hN hx hxl hsw pi ok pg pt pe hs, fun S σ H ρ Ds rel P => ?_⟩
  refine peekL_k (lc_read ki kg kt ke hch hv) S σ H ρ _ rel (Post.seq P (fun z => z) (fun _ _ p S' H' cls dd e q => p σ S' H' cls dd e q) fun d ρ1 v S1 H1 s1 r1 q1 P1 => ?_)
  refine P1 _ S1 H1 ⟨s1.ext, fun a q => ?_⟩ (fix_set hfi) (r1.setO q1.1 (fun a ea j hj ho hs => ?_) hio)
  · rcases own_setO q with q | q
    · exact s1.own a q
    · exact .inr (q1.2 a q)
  · obtain ⟨n, o, eo⟩ := rel.owned ⟨j, ho, hs⟩
    rw [q1.2 a ea] at eo
    cases eo
end
end SW

set_option maxRecDepth 100000
/-! SW43: defs that turn their first two parameters. -/
namespace SW
open PySem PySem.Spec PyProof.Rows L2
abbrev os2 : Os := [true, true]
def spec2 (K : PySem.W.Frag) (mg : Str → Option Value) (n : Nat) (m : List D → Out (D × D × D)) : Sp := fun vs H Q E =>
  vs.length = n ∧ ∃ S ds, Rel K S H os2 (vs.map some) (ds.map some) ∧ match m ds with
    | .ok (d, o1, o2) => ∀ v S' H', Ext (Own os2 (vs.map some)) S H S' H' → RV K false H S' H' v d → (∀ u, vs[0]? = some u → OwnAt K S' H' u o1) → (∀ u, vs[1]? = some u → OwnAt K S' H' u o2) → Q v H'
    | .exc c fs => ∀ S' H' cls dd, Ext (Own os2 (vs.map some)) S H S' H' → ExcAt K mg S' c fs cls dd → E cls dd H'
    | .stuck => False
def m2 (ρ : Rho) : D × D := ((ρ.getD 0 none).getD .non, (ρ.getD 1 none).getD .non)
def runF2 (n : Nat) (g : Rho → Out Fl) : List D → Out (D × D × D) := fun ds => match g (ds.map some ++ List.replicate (n - ds.length) none) with
  | .ok (.nx ρ) => .ok (.non, m2 ρ)
  | .ok (.rt d ρ) => .ok (d, m2 ρ)
  | .exc c fs => .exc c fs
  | _ => .stuck
theorem rel_start2 {K : PySem.W.Frag} {S H : Hp} {o0 : Os} {vs : List V} {ds : List D} {N : List Str} {os : Os} (r : Rel K S H o0 (vs.map some) (ds.map some)) (ho : ∀ i, os.getD i false = o0.getD i false) : Rel K S H os (start N vs) (ds.map some ++ List.replicate (N.length - ds.length) none) := by
  have hl : vs.length = ds.length := by simpa using r.len
  have cut : ∀ {α : Type} {l : List (Option α)} {m i : Nat} {x : Option α}, (l ++ List.replicate m none)[i]? = some x → (l[i]? = some x) ∨ (l.length ≤ i ∧ x = none) := fun {α l m i x} h => by
    by_cases hi : i < l.length
    · rw [List.getElem?_append_left hi] at h; exact .inl h
    · rw [List.getElem?_append_right (by omega), List.getElem?_replicate] at h
      split at h
      · cases h; exact .inr ⟨by omega, rfl⟩
      · cases h
  refine ⟨r.sub, ?_, fun i x y e1 e2 => ?_, fun i j a h1 h2 e1 e2 => ?_⟩
  · unfold L2.start; rw [List.length_append, List.length_append, List.length_map, List.length_map, List.length_replicate, List.length_replicate, hl]
  · unfold L2.start at e1
    rw [ho]
    rcases cut e1 with q1 | ⟨q1, rfl⟩
    · rcases cut e2 with q2 | ⟨q2, rfl⟩
      · exact r.slot i x y q1 q2
      · have := (List.getElem?_eq_some_iff.mp q1).1
        rw [List.length_map] at this q2
        omega
    · rcases cut e2 with q2 | ⟨q2, rfl⟩
      · have := (List.getElem?_eq_some_iff.mp q2).1
        rw [List.length_map] at this q1
        omega
      · cases o0.getD i false <;> trivial
  · unfold L2.start at e1 e2
    rw [ho] at h1 h2
    rcases cut e1 with q1 | ⟨_, q1⟩
    · rcases cut e2 with q2 | ⟨_, q2⟩
      · exact r.sep i j a h1 h2 q1 q2
      · cases q2
    · cases q1
theorem own_start2 {o0 : Os} {vs : List V} {N : List Str} {os : Os} {a : Addr} (ho : ∀ i, os.getD i false = o0.getD i false) (h : Own os (start N vs) a) : Own o0 (vs.map some) a := by
  obtain ⟨i, h1, h2⟩ := h
  rw [ho] at h1
  refine ⟨i, h1, ?_⟩
  unfold L2.start at h2
  by_cases hi : i < (vs.map some).length
  · rw [List.getElem?_append_left hi] at h2; exact h2
  · rw [List.getElem?_append_right (by omega), List.getElem?_replicate] at h2
    split at h2 <;> cases h2
theorem os_ok2 {os : Os} (h : (List.range (max os.length 2)).all (fun i => os.getD i false == os2.getD i false) = true) : ∀ i, os.getD i false = os2.getD i false := fun i => by
  by_cases hi : i < max os.length 2
  · exact eq_of_beq (List.all_eq_true.mp h i (List.mem_range.mpr hi))
  · rw [List.getD, List.getD, List.getElem?_eq_none (by omega), List.getElem?_eq_none (show os2.length ≤ i by show 2 ≤ i; omega)]
section
variable {P : Program} {w : World} {K : PySem.W.Frag} {mg : Str → Option Value} {base : Heap}
theorem fn_by2 {x qual : Str} {st : Stmt} {f : Addr} {fd : FuncData} {N ps : List Str} {k n : Nat} {g : Rho → Out Fl} {os osN : Os} (F : Fun K x qual st f fd) (Sc : FnScope N ps (defScope st)) (hn : n = ps.length)
    (ho : ∀ i, os.getD i false = os2.getD i false) (hNl : Le os2 osN)
    (body : ∀ (cdv : Value) (A : Around) (outer : List Env) (s : Shared) (H : Hp) (E : XK), Room k (A.deeper (envOfC qual (defScope st) s.heap.objs.size f cdv)) →
      ∀ (X : Cx), X = cxOf (L2.CX P w) P w K mg base N qual (defScope st) f cdv A outer s H E → Takes X (fun cls d _ H' => E cls d H') → PassesOwn (model X.prog X.w) X.A X.env X.xe →
      VSs X (fun cls d _ H' => E cls d H') ⟨os2, [], [], false⟩ os (defBody st) g osN) :
    FnOk P w K mg base (L2.CX P w) (k + 1) f fd ps (spec2 K mg n (runF2 N.length g)) := by
  refine F.okX Sc (fun vs H Q E h => by rw [h.1, hn]) (fun cdv A outer s H vs Q E hr h => ?_)
  obtain ⟨hl, S, ds, rel, h⟩ := h
  obtain ⟨t, pt, kt⟩ := body cdv A outer s H E hr _ rfl (takes_of rfl rfl rfl rfl) (passes_of rfl)
  refine ⟨t, pt, kt S _ H _ _ (rel_start2 (N := N) rel ho) ?_⟩
  unfold runF2 at h
  cases e : g (ds.map some ++ List.replicate (N.length - ds.length) none) with
  | exc c fs =>
    rw [e] at h
    exact fun σ' S' H' cls dd x q => h S' H' cls dd (x.weak fun a q => own_start2 ho q) q
  | stuck => rw [e] at h; exact h.elim
  | ok z =>
    rw [e] at h
    have hm : ∀ (j : Nat) (ρ : Rho) (σ : Sg) (S' H' : Hp), os2.getD j false = true → (∀ i u, os2.getD i false = true → σ[i]? = some (some u) → ∃ d', ρ[i]? = some (some d') ∧ OwnAt K S' H' u d') → FixOn os2 (start N vs) σ → ∀ u, vs[j]? = some u → OwnAt K S' H' u ((ρ.getD j none).getD .non) := fun j ρ σ S' H' hj hk hf u ev => by
      have hs : (start N vs)[j]? = some (some u) := by
        unfold L2.start
        rw [List.getElem?_append_left (by rw [List.length_map]; exact (List.getElem?_eq_some_iff.mp ev).1), List.getElem?_map, ev]
        rfl
      obtain ⟨d', e1, q⟩ := hk j u hj (by rw [hf.2 j hj]; exact hs)
      have e2 : (ρ.getD j none).getD .non = d' := by
        rw [List.getD, e1]; rfl
      rw [e2]; exact q
    cases z with
    | bk ρ => exact h.elim
    | ct ρ => exact h.elim
    | nx ρ =>
      intro σ' S' H' s' f' r'
      have hk := fix_end (X := cxOf (L2.CX P w) P w K mg base N qual (defScope st) f cdv A outer s H E) r' hNl
      exact h .non S' H' (s'.ext.weak fun a q => own_start2 ho q) .non (hm 0 ρ σ' S' H' rfl hk f') (hm 1 ρ σ' S' H' rfl hk f')
    | rt d ρ =>
      refine fun v S' H' x hv hk => h v S' H' (x.weak fun a q => own_start2 ho q) hv (hm 0 ρ _ S' H' rfl hk FixOn.refl) (hm 1 ρ _ S' H' rfl hk FixOn.refl)
end
section
variable {X : Cx} {W : WX} {os : Os} {pos p : Pos}
def eCallM2 (m : List D → Out (D × D × D)) (i j : Nat) : Rho → Out (D × Rho) := fun ρ => match ρ.getD i none, ρ.getD j none with
  | some d1, some d2 => (m [d1, d2]).bind fun q => .ok (q.1, (ρ.set i (some q.2.1)).set j (some q.2.2))
  | _, _ => .stuck
theorem ve_callM2 {x : Str} {kk : Nat} (i j : Nat) {a b : Str} {pa pb : Pos} {fa : Addr} {fd : FuncData} {ps : List Str} {m : List D → Out (D × D × D)} (F : FnOk X.prog X.w X.K X.mg X.base (L2.CX X.prog X.w) kk fa fd ps (spec2 X.K X.mg 2 m)) (tk : Takes X W)
    (hr : Room kk X.A) (hm : X.mg x = some (.ref fa)) (hk : PySem.W.keepIn X.K (.ref fa) = true) (hb : Binds X.K fd ps []) (ho : os.getD i false = true := by rfl) (ho2 : os.getD j false = true := by rfl) (hij : i ≠ j := by decide)
    (hN : X.N[i]? = some a := by rfl) (hN2 : X.N[j]? = some b := by rfl) (hv : Vis X.env.scope a := by first | exact Or.inl rfl | exact Or.inr (Or.inl rfl) | exact Or.inr (Or.inr rfl)) (hv2 : Vis X.env.scope b := by first | exact Or.inl rfl | exact Or.inr (Or.inl rfl) | exact Or.inr (Or.inr rfl))
    (hd : (a == ("__debug__" : Str)) = false := by decide) (hcd : (a == ("__classdict__" : Str)) = false := by decide) (hd2 : (b == ("__debug__" : Str)) = false := by decide) (hcd2 : (b == ("__classdict__" : Str)) = false := by decide)
    (hg : Gl X x := by rfl) (hdb : (x == ("__debug__" : Str)) = false := by decide)
    (he : starEach [Expr.Name a pa, .Name b pb] X.env = (false, eval (.Name a pa) X.env) :: starEach [Expr.Name b pb] X.env := by rfl) (he2 : starEach [Expr.Name b pb] X.env = (false, eval (.Name b pb) X.env) :: starEach [] X.env := by rfl) (hpl : (backTo pos (starEach [Expr.Name b pb] X.env)).any (·.1) = false := by rfl) :
    VE X W os (.Call (.Name x p) [.Name a pa, .Name b pb] [] pos) (eCallM2 m i j) os false := by
  refine ⟨_, pe_callS F hr hg hm hk hb (fun σ => passAt tk σ) (pa_cons (pe_var hN hv hd hcd) (pa_cons (pe_var hN2 hv2 hd2 hcd2) pa_nil he2) he) hdb he hpl, fun S σ H ρ Q rel P => ?_⟩
  unfold eCallM2 at P
  cases h1 : ρ.getD i none with
  | none => rw [h1] at P; exact P.elim
  | some d1 =>
  cases h2 : ρ.getD j none with
  | none => rw [h1, h2] at P; exact P.elim
  | some d2 =>
  rw [h1, h2] at P
  have P : Post X W S H os σ os (RV X.K false) Q ((m [d1, d2]).bind fun q => .ok (q.1, (ρ.set i (some q.2.1)).set j (some q.2.2))) := P
  obtain ⟨u1, e1, q1⟩ := rel.own (getD_some h1) ho
  obtain ⟨u2, e2, q2⟩ := rel.own (getD_some h2) ho2
  refine ⟨u1, e1, u2, e2, ?_⟩
  have apart : ∀ c, u1 = .ref c → u2 = .ref c → False := fun c z1 z2 => hij (rel.sep i j c ho ho2 (by rw [e1, z1]) (by rw [e2, z2]))
  refine ⟨rfl, S, [d1, d2], ⟨rel.sub, rfl, fun n xx y f1 f2 => ?_, fun n n' c g1 g2 f1 f2 => ?_⟩, ?_⟩
  · match n, f1, f2 with
    | 0, f1, f2 => cases f1; cases f2; exact q1
    | 1, f1, f2 => cases f1; cases f2; exact q2
    | n + 2, f1, f2 => simp at f1
  · match n, n', f1, f2 with
    | 0, 0, _, _ => rfl
    | 1, 1, _, _ => rfl
    | 0, 1, f1, f2 =>
      have z1 : u1 = .ref c := by simpa using f1
      have z2 : u2 = .ref c := by simpa using f2
      exact (apart c z1 z2).elim
    | 1, 0, f1, f2 =>
      have z1 : u2 = .ref c := by simpa using f1
      have z2 : u1 = .ref c := by simpa using f2
      exact (apart c z2 z1).elim
    | 0, n + 2, _, f2 => simp at f2
    | 1, n + 2, _, f2 => simp at f2
    | n + 2, _, f1, _ => simp at f1
  · have conv : ∀ c, Own os2 ([u1, u2].map some) c → σ[i]? = some (some (.ref c)) ∨ σ[j]? = some (some (.ref c)) := fun c ⟨n, g1, g2⟩ => by
      match n, g2 with
      | 0, g2 =>
        have z : u1 = .ref c := by simpa using g2
        exact .inl (by rw [e1, z])
      | 1, g2 =>
        have z : u2 = .ref c := by simpa using g2
        exact .inr (by rw [e2, z])
      | n + 2, g2 => simp at g2
    have hsub : ∀ c, Own os2 ([u1, u2].map some) c → Own os σ c := fun c h => (conv c h).elim (fun z => ⟨i, ho, z⟩) (fun z => ⟨j, ho2, z⟩)
    cases hmd : m [d1, d2] with
    | stuck => rw [hmd] at P; exact P.elim
    | exc c fs =>
      rw [hmd] at P
      exact fun S' H' cls dd x q => P S' H' cls dd (x.weak hsub) q
    | ok z =>
      rw [hmd] at P
      intro v S' H' x q qo1 qo2
      have qo1 := qo1 u1 rfl
      have qo2 := qo2 u2 rfl
      refine P v S' H' ⟨x.weak hsub, fun _ q => .inl q⟩ ⟨x.sh, by rw [List.length_set, List.length_set]; exact rel.len, fun n xx yy f1 f2 => ?_, rel.sep⟩ q
      by_cases hnj : j = n
      · subst hnj
        have hl : j < (ρ.set i (some z.2.1)).length := by
          have := (List.getElem?_eq_some_iff.mp f2).1
          rwa [List.length_set] at this
        rw [List.getElem?_set_self hl] at f2
        rw [e2] at f1
        cases f1; cases f2
        rw [ho2]; exact qo2
      · rw [List.getElem?_set_ne hnj] at f2
        by_cases hni : i = n
        · subst hni
          have hl : i < ρ.length := by
            have := (List.getElem?_eq_some_iff.mp f2).1
            rwa [List.length_set] at this
          rw [List.getElem?_set_self hl] at f2
          rw [e1] at f1
          cases f1; cases f2
          rw [ho]; exact qo1
        · rw [List.getElem?_set_ne hni] at f2
          have qq := rel.slot n xx yy f1 f2
          cases hon : os.getD n false <;> rw [hon] at qq <;> cases xx <;> cases yy <;> simp only [SlotAt] at qq ⊢
          · exact qq.mono x.s
          · refine qq.ext x fun c ec hz => ?_
            rcases conv c hz with w | w
            · exact hni (rel.sep i n c ho hon w (by rw [f1, ec]))
            · exact hnj (rel.sep j n c ho2 hon w (by rw [f1, ec]))
end
end SW

set_option maxRecDepth 100000
set_option maxHeartbeats 2000000
/-! SW44: enumerate of a tuple. -/
namespace SW
open PySem PySem.Spec PyProof.Rows L2

section
variable {v : Value} {o : Obj} {B0 : Heap → Prop}
/-- enumerate(v): what is made -/
theorem meets_enum_of (B : Begins v o B0) : Meets (Builtin.«enumerate.__new__» ⟨[.type "enumerate", v], []⟩) (fun _ R s => B0 s.heap ∧ R (.ok (.ret (.ref (s.heap.push o).objs.size)))
    { s with heap := (s.heap.push o).push { cls := .type "enumerate", data := .fields #[.none, .bool false, .ref s.heap.objs.size, rawInt 0, .none, .none] } }) := .of_wp fun p0 w0 A0 R0 s0 h0 => by
  obtain ⟨hp, gs, ds, tk, oo⟩ := s0
  obtain ⟨hb, hr⟩ := h0
  have hsub := sub_enumerate
  have step : ∀ {A1 : Around} {E1 : Value → Shared → Prop} {Q1 : Value → Shared → Prop}, Q1 (.ref hp.objs.size) ⟨hp.push o, gs, ds, tk, oo⟩ → wpAny (model p0 w0) A1 (pyIter v) Q1 E1 ⟨hp, gs, ds, tk, oo⟩ := fun q => B.iter p0 w0 _ _ ⟨hp, gs, ds, tk, oo⟩ _ hb q
  wp_walk using step
  refine wpAny_stack_any fun stk => wpAny_pure ?_
  split
  · rename_i c1 _ _ _ _ _
    cases (c1 == Value.type "enumerate") <;> (wp_walk using step; exact ⟨_, rfl, hr⟩)
  · wp_walk using step
    exact ⟨_, rfl, hr⟩
theorem call_enum_of {P : Program} {w : World} {A : Around} {E : Value → Shared → Prop} {s : Shared} {Q : Value → Shared → Prop} (B : Begins v o B0) (hb : B0 s.heap)
    (fin : ∀ g, IsEnum g (s.heap.objs.size + 1) s.heap.objs.size 0 .none → g.get? s.heap.objs.size = some o → (∀ b ob, s.heap.get? b = some ob → g.get? b = some ob) → Q (.ref (s.heap.objs.size + 1)) { s with heap := g }) :
    wpAny (model P w) A (call (.type "enumerate") [v]) Q E s := by
  have big : (s.heap.push o).objs.size = s.heap.objs.size + 1 := Heap.size_push ..
  refine callType_new F.called_enumerate (by decide) (F.typeCall_enumerate_1 _) (F.newCall_enumerate_1 _) (fun ob => F.args_object_init_2 ob _) F.entry_enumerate_new (meets_enum_of B) ⟨hb, ?_⟩
  have top : IsEnum ((s.heap.push o).push { cls := .type "enumerate", data := .fields #[.none, .bool false, .ref s.heap.objs.size, rawInt 0, .none, .none] }) (s.heap.objs.size + 1) s.heap.objs.size 0 .none := by
    rw [← big]
    exact Heap.get?_push_size (s.heap.push o) rfl
  show _ ∧ _
  rw [big]
  exact ⟨⟨_, top, rfl⟩, fin _ top (Heap.get?_push_of_some _ (Heap.get?_push_size _ B.free)) fun b ob z => Heap.get?_push_of_some _ (Heap.get?_push_of_some _ z)⟩
end
/-- the tuple at a, each item in a new pair -/
def IteT (K : PySem.W.Frag) (a : Addr) : It where
  go := fun i H => ∃ (vs : List V) (x : V), SqT K H a vs ∧ vs[i]? = some x
  yld := fun i H u H' => ∃ T x, u = .ref T ∧ H T = none ∧ H' = upd H T (.tup [.int (i : Nat), x]) ∧ ∀ vs, SqT K H a vs → vs[i]? = some x
  stop := fun i H => ∃ vs : List V, SqT K H a vs ∧ vs.length ≤ i
theorem tupIter_ne {h : Heap} {it a : Addr} {i : Nat} {its : Array Value} (h1 : h.IsTupleIter it a i) (h2 : h.IsTuple a its) : a ≠ it := fun e => by
  subst e
  obtain ⟨o1, g1, c1, _⟩ := h1
  obtain ⟨o2, g2, c2, _⟩ := h2
  rw [g1] at g2
  cases g2
  rw [c1] at c2
  exact absurd (Value.type.inj c2) (by decide)
theorem enum_ne_tup {h : Heap} {e it a : Addr} {c : Int} {old : Value} {its : Array Value} (h1 : IsEnum h e it c old) (h2 : h.IsTuple a its) : e ≠ a := fun z => by
  subst z
  have h1 : h.get? e = some _ := h1
  obtain ⟨o2, g2, c2, _⟩ := h2
  rw [h1] at g2
  cases g2
  exact absurd (Value.type.inj c2) (by decide)
theorem turn_enumT {P : Program} {w : World} {K : PySem.W.Frag} {elts : List Expr} {kk : Nat} {tpos : Pos} (a e it : Addr) :
    Turn P w K (.Tuple elts kk tpos) (IteT K a) [e, it] e (fun i h => (∃ old, IsEnum h e it ((i : Nat) : Int) old) ∧ h.IsTupleIter it a i ∧ e ≠ it) where
  mem := by simp
  obj := fun i h st b hb => by
    obtain ⟨⟨old, he⟩, ⟨o1, g1, _, d1⟩, _⟩ := st
    rcases List.mem_cons.mp hb with z | z
    · rw [z]; exact ⟨_, he, fun v q => nomatch q⟩
    · rw [List.mem_singleton.mp z]; exact ⟨o1, g1, fun v q => by rw [d1] at q; cases q⟩
  keep := fun i h h' st k => by
    obtain ⟨⟨old, he⟩, hi, ne⟩ := st
    exact ⟨⟨old, k e (by simp) _ he⟩, hi.at fun ob q => k it (by simp) ob q, ne⟩
  item := by
    rintro X rfl rfl rfl hc i pins s σ H E I fp ⟨⟨old, he⟩, hit, ne⟩ ⟨vs, x, hq, hx⟩
    obtain ⟨its, rv, tup, _⟩ := I.tuple hq
    obtain ⟨u, hu, ru⟩ := rv.get hx
    have tup : s.heap.IsTuple a its.toArray := tup
    have small : i < its.toArray.size := by
      have := (List.getElem?_eq_some_iff.mp hu).1
      simpa using this
    have ea : e ∉ [it, a] := by
      intro z
      rcases List.mem_cons.mp z with z | z
      · exact ne z
      · exact enum_ne_tup he tup (List.mem_singleton.mp z)
    have le : e < s.heap.objs.size := Heap.lt_size he
    have li : it < s.heap.objs.size := by obtain ⟨_, q, _⟩ := hit; exact Heap.lt_size q
    refine wpAny_pyNext_enum_itemC (Draws.tuple (show X.A.in1.handled = none from I.ok.hd hc) it a (tupIter_ne hit tup) its.toArray) he ⟨hit, tup⟩ small ne ea fun y g tk hy out st' cell _ old' => ?_
    have eu : y = u := by
      have hy : its.toArray[i]? = some y := hy
      rw [List.getElem?_toArray, hu] at hy
      exact (Option.some.inj hy).symm
    subst eu
    refine ⟨_, rfl, wpAny_letOwnedTupleGo_enum (s := { s with heap := g, toks := tk + 1 }) out fun g2 out2 same => ?_⟩
    have cell2 : g2.get? s.heap.objs.size = some { cls := .type "tuple", data := .seq #[.int i tk, y] } := (same.2 _ (Nat.ne_of_gt le)).trans cell
    have I1 : Inv X pins σ (upd H s.heap.objs.size (.tup [.int (i : Nat), x])) { s with heap := g2, toks := tk + 1 } := by
      refine I.turnedNew (ch := [e, it]) (fun b ob hb q => ?_) fp (Nat.le_refl _) ⟨two_ok, [.int i tk, y], .cons ⟨_, rfl⟩ (.cons ru .nil), ⟨_, cell2, rfl, _, rfl⟩⟩
      exact (same.2 b fun z => hb (by simp [z])).trans (old' b ob (fun z => hb (by simp [z])) (fun z => hb (by simp [z])) q)
    refine ⟨.ref s.heap.objs.size, _, I1, rfl, ⟨_, x, rfl, I.hok.fresh (Nat.le_refl _), rfl, fun ws hw => by rw [I.tuple_inj hw hq]; exact hx⟩, ⟨⟨y, by rw [Int.natCast_add, Int.natCast_one]; exact out2⟩, st'.1.at fun ob q => (same.2 it (Ne.symm ne)).trans q, ne⟩, fun b hb => ?_⟩
    have lb : b < s.heap.objs.size := by
      rcases List.mem_cons.mp hb with z | z
      · rw [z]; exact le
      · rw [List.mem_singleton.mp z]; exact li
    rw [upd_ne (Nat.ne_of_lt lb)]
    exact (fp b hb).1
  done := by
    rintro X rfl rfl rfl hc i pins s σ H E I fp ⟨⟨old, he⟩, hit, ne⟩ ⟨vs, hq, hx⟩
    obtain ⟨its, rv, tup, _⟩ := I.tuple hq
    have tup : s.heap.IsTuple a its.toArray := tup
    have hl := rv.length
    obtain ⟨f0, f1, f2, f3, f4, f5⟩ := fp it (by simp)
    have none_at : its.toArray[i]? = none := by
      rw [List.getElem?_toArray]
      exact List.getElem?_eq_none (by omega)
    have D : Draws X.prog X.w X.A.in1 it [it, a] i (fun j u => its.toArray[j]? = some u) (fun j h => j = i ∧ h.IsTupleIter it a j ∧ h.IsTuple a its.toArray) := by
      refine ⟨fun _ _ st => ?_, fun _ _ _ st k => ⟨st.1, st.2.1.at fun ob q => k it (by simp) ob q, st.2.2.at fun ob q => k a (by simp) ob q⟩, fun j s1 Q1 E1 hj st _ => ?_, fun s1 Q1 E1 st hE => ?_⟩
      · obtain ⟨_, ⟨ob, g1, _⟩, _⟩ := st
        exact ⟨ob, g1⟩
      · exact absurd hj (by rw [st.1]; exact Nat.lt_irrefl _)
      · exact wpAny_nextOf_tuple_end (show X.A.in1.handled = none from I.ok.hd hc) st.2.1 st.2.2 none_at hE
    exact wpAny_pyNext_enum_endD D he ⟨rfl, hit, tup⟩ fun g eb => ⟨rfl, I.turned (t' := s.toks) (fun b ob hb q => eb b ob hb q) f0 f1 f3 f4 f5⟩
  self := fun A i s Q E st h => by
    obtain ⟨⟨_, he⟩, _⟩ := st
    exact wpAny_pyIter_enum he h
def wEnumT (K : PySem.W.Frag) (ta : TA) : TI := fun σ H R => ta σ H fun vs H1 => ∃ a xs, vs = [.ref a] ∧ SqT K H1 a xs ∧ R (IteT K a) H1
theorem pi_enumT {X : Cx} {e : Expr} {ta : TA} {p pos tpos : Pos} {elts : List Expr} {kk : Nat} (hg : Gl X "enumerate") (hm : X.mg "enumerate" = none) (pa : PA X [e] ta) (hs : starEach [e] X.env = [(false, eval e X.env)] := by rfl) :
    PI X (.Tuple elts kk tpos) (.Call (.Name "enumerate" p) [e] [] pos) (wEnumT X.K ta) := by
  constructor
  intro pins s σ H R I h
  refine Call_ (ld_blt I hg hm boot_enumerate (PyProof.Rows.callWith_type1 (thn (pa.run pos pins s σ H _ I h) fun us s1 z => ?_) hs rfl))
  obtain ⟨vs, H1, I1, r1, a, xs, rfl, hq, q⟩ := z
  obtain ⟨u, rfl, r⟩ := vals1 r1
  obtain rfl : u = Value.ref a := r
  obtain ⟨its, rv, tup, _⟩ := I1.tuple hq
  refine call_enum_of (begins_tuple a its.toArray) tup fun g he hit old => wpAny_pyIter_enum he ?_
  have I2 : Inv X pins σ H1 { s1 with heap := g } := I1.kept (t' := s1.toks) old
  refine ⟨s1.heap.objs.size + 1, [s1.heap.objs.size + 1, s1.heap.objs.size], _, _, H1, rfl, I2, turn_enumT a (s1.heap.objs.size + 1) s1.heap.objs.size, ⟨⟨.none, he⟩, ⟨_, hit, rfl, rfl⟩, Nat.succ_ne_self _⟩, fun b hb => ?_, q⟩
  have big : s1.heap.objs.size ≤ b := by
    rcases List.mem_cons.mp hb with z | z
    · rw [z]; exact Nat.le_add_right _ _
    · rw [List.mem_singleton.mp z]; exact Nat.le_refl _
  exact I1.fpOk big (I1.hok.fresh big)
def iEnumA : List D → Option (List D)
  | [.tup ds] => some (enumD ds)
  | x => iEnum1 x
section
variable {X : Cx} {W : WX} {os os1 : Os} {e : Expr} {p pos : Pos}
theorem itAt_enumT {K : PySem.W.Frag} {S : Hp} {a : Addr} {vs : List V} {ds : List D} (h : SqT K S a vs) (z : ds.length ≤ sizeLine) (r : AtL K S vs ds) : ItAt K S (IteT K a) (enumD ds) := by
  have hl : (enumD ds).length = ds.length := by unfold enumD; rw [List.length_zipWith, List.length_range, Nat.min_self]
  refine ⟨by rw [hl]; exact z, fun i S' H' s1 s2 => ?_⟩
  have hs' : SqT K H' a vs := sqT_mono s2 (sqT_mono s1 h)
  refine ⟨fun hi => ⟨vs, hs', by rw [r.length, ← hl]; exact hi⟩, fun d hd => ?_⟩
  have hi : i < ds.length := by rw [← hl]; exact (List.getElem?_eq_some_iff.mp hd).1
  obtain ⟨v, ev, hat⟩ := r.get (List.getElem?_eq_getElem hi)
  refine ⟨⟨vs, v, hs', ev⟩, fun u H2 y => ?_⟩
  obtain ⟨T, x', rfl, nT, rfl, fx⟩ := y
  cases (fx vs hs').symm.trans ev
  have xx := Ext.new (O := fun _ => False) (o := .tup [.int (i : Nat), v]) s2 nT
  refine ⟨_, xx, ?_⟩
  have ed : d = .tup [.int (i : Nat), ds[i]] := by
    unfold enumD at hd
    rw [List.getElem?_zipWith, List.getElem?_range hi, List.getElem?_eq_getElem hi] at hd
    exact (Option.some.inj hd).symm
  rw [ed]
  exact .tup (.inl (.inl upd_same)) two_ok (.cons (.int _) (.cons ((hat.mono s1).mono xx.s) .nil))
theorem vi_enumA {elts : List Expr} {kk : Nat} {tpos : Pos} {g : Rho → Out (List D × Rho)} (ha : VA X W os [e] g os1) (hm : X.mg "enumerate" = none) (hg : Gl X "enumerate" := by rfl) (hs : starEach [e] X.env = [(false, eval e X.env)] := by rfl) :
    VI X W os (.Tuple elts kk tpos) (.Call (.Name "enumerate" p) [e] [] pos) (iArg iEnumA g) os1 := by
  obtain ⟨w0, p0, k0⟩ : VI X W os (.Tuple elts kk tpos) (.Call (.Name "enumerate" p) [e] [] pos) (iArg iEnum1 g) os1 := vi_enum ha hm hg hs
  obtain ⟨t, pt, kt⟩ := ha
  refine ⟨_, pi_or p0 (pi_enumT hg hm pt hs), fun S σ H ρ R rel P => ?_⟩
  by_cases hd : ∃ ds ρ1, g ρ = .ok ([.tup ds], ρ1)
  · obtain ⟨ds, ρ1, hf⟩ := hd
    refine .inr (kt S σ H ρ _ rel ?_)
    unfold iArg at P
    rw [hf] at P ⊢
    intro vs S1 H1 st1 rel1 q1
    obtain ⟨q1, l1⟩ := q1
    match vs, q1 with
    | [v1], .cons h1 .nil =>
      cases h1 with
      | @tup a ws es hs1 z r => exact ⟨a, ws, rfl, sqT_mono rel1.sub hs1, P _ S1 H1 st1 rel1 (itAt_enumT hs1 z r)⟩
  · refine .inl (k0 S σ H ρ R rel ?_)
    have e : iArg iEnumA g ρ = iArg iEnum1 g ρ := by
      unfold iArg
      cases hf : g ρ with
      | ok z =>
        obtain ⟨l, ρ1⟩ := z
        show ((Out.of (iEnumA l)).bind fun c => .ok (c, ρ1)) = (Out.of (iEnum1 l)).bind fun c => .ok (c, ρ1)
        unfold iEnumA
        split
        · exact absurd ⟨_, ρ1, hf⟩ hd
        · rfl
      | exc c fs => rfl
      | stuck => rfl
    rw [← e]
    exact P
end
end SW

set_option maxRecDepth 100000
/-! SW45: try: tests and calls, nothing stored; except C as n: y = n. -/
namespace SW
open PySem PySem.Spec PyProof.Rows L2
def RTr : RR D V := fun _ _ _ _ _ => True
/-- statements that store nothing -/
def VQ (X : Cx) (W : WX) (os : Os) (st : List Stmt) (f : Rho → Out (D × Rho)) : Prop :=
  ∃ t, PSs X st t ∧ ∀ S σ H ρ (Ds : Ends), Rel X.K S H os σ ρ → Post X W S H os σ os RTr (fun (_ : V) H1 => Ds.nx σ H1) (f ρ) → t Ds σ H
section
variable {X : Cx} {W : WX} {os : Os} {pos : Pos} {e c : Expr} {f g : Rho → Out (D × Rho)} {gc : Rho → Out (Bool × Rho)} {a b : List Stmt}
theorem Post.anyR {S H : Hp} {σ : Sg} {os2 : Os} {R : RR D V} {Q : V → Hp → Prop} {x : Out (D × Rho)} (P : Post X W S H os σ os2 RTr Q x) : Post X W S H os σ os2 R Q x := by
  cases x with
  | ok z => exact fun v S' H' s r _ => P v S' H' s r trivial
  | exc k fs => exact P
  | stuck => exact P
theorem vq_expr {r : Bool} (he : VE X W os e f os r) (hs : swapsWith e none pos.line X.env = pure false := by rfl) : VQ X W os [.Expr e pos] f := by
  obtain ⟨t, pt, kt⟩ := he
  exact ⟨_, pss_one (ps_expr pt hs), fun S σ H ρ Ds rel P => kt S σ H ρ _ rel P.anyR⟩
def qIf (gc : Rho → Out (Bool × Rho)) (f g : Rho → Out (D × Rho)) : Rho → Out (D × Rho) := fun ρ => (gc ρ).bind fun p => if p.1 = true then f p.2 else g p.2
theorem RTr.ok : RTr.Ok := fun _ _ _ _ _ _ _ q => q
theorem vq_if (hc : VT X W os c gc os) (ha : VQ X W os a f) (hb : VQ X W os b g) : VQ X W os [.If c a b pos] (qIf gc f g) := by
  obtain ⟨t, pt, kt⟩ := hc
  obtain ⟨ta, pa, ka⟩ := ha
  obtain ⟨tb, pb, kb⟩ := hb
  refine ⟨_, pss_one (ps_if pt pa pb), fun S σ H ρ Ds rel P => ?_⟩
  refine kt S σ H ρ _ rel (Post.seq P (fun z => z) (fun c fs p => p) fun d ρ1 v S1 H1 s1 r1 q1 P1 => ?_)
  have P1 := P1.step RTr.ok s1
  cases q1
  dsimp only at P1
  cases d with
  | true => exact ka S1 σ H1 ρ1 Ds r1 P1
  | false => exact kb S1 σ H1 ρ1 Ds r1 P1
end
section
variable {X : Cx} {W : WX} {L : Lc} {os : Os} {pos : Pos}
theorem vs_tryQ {y n xc : Str} {body : List Stmt} {pc py pn p2 p3 : Pos} {i j : Nat} {C0 : Value} {okc : Str → Bool} {f : Rho → Out (D × Rho)} (hv : ∀ (W : WX) (pn : List (Addr × Obj)) (xe : Value → Shared → Prop), Takes (X.tr pn xe) W → PassesOwn (model X.prog X.w) X.A X.env xe → VQ (X.tr pn xe) W os body f)
    (hO : OkC X.K X.mg C0 okc) (hcn : Names X xc C0) (hst : X.stack = X.env :: X.outer) (hfr : X.env.frame = some X.env.locals) (hex : X.ex = []) (hN : X.N.Nodup) (hi : X.N[i]? = some n := by rfl) (hj : X.N[j]? = some y := by rfl)
    (hy : Loc X.env.scope y := by first | exact Or.inl rfl | exact Or.inr rfl) (hln : X.env.kindOf n = some .local := by rfl) (hvn : Vis X.env.scope n := by first | exact Or.inl rfl | exact Or.inr (Or.inl rfl) | exact Or.inr (Or.inr rfl))
    (hij : i ≠ j := by decide) (hfi : L.fx.getD i false = false := by rfl) (hfj : L.fx.getD j false = false := by rfl) (hos : os.all (fun b => !b) = true := by rfl)
    (hs2 : swapsWith (.Name n pn) (some (.Name y py)) p2.line X.env = pure false := by rfl)
    (hf2 : X.fn y = true ∨ X.env.scope.names.lookup y = some .local := by first | exact .inl rfl | exact .inr rfl | assumption)
    (hd : (n == ("__debug__" : Str)) = false := by decide) (hcd : (n == ("__classdict__" : Str)) = false := by decide) :
    VS X W L os (.Try body [.ExceptHandler (some (.Name xc pc)) (some n) [.Assign [.Name y py] (.Name n pn) p2] p3] [] [] pos) (sTryE okc i j f) os := by
  have no : ∀ m, os.getD m false = false := fun m => by
    rw [List.getD_eq_getElem?_getD]
    cases h : os[m]? with
    | none => rfl
    | some b => simpa using List.all_eq_true.mp hos b (List.mem_of_getElem? h)
  have nown : ∀ σ a, ¬ Own os σ a := fun σ a ⟨m, h, _⟩ => by rw [no m] at h; cases h
  have sos : ∀ m, os.set m false = os := fun m => by
    refine List.ext_getElem? fun l => ?_
    by_cases h : m = l
    · subst h
      by_cases hl : m < os.length
      · have z := no m
        rw [List.getD_eq_getElem?_getD, List.getElem?_eq_getElem hl] at z
        rw [List.getElem?_set_self hl, List.getElem?_eq_getElem hl, show os[m] = false from z]
      · rw [List.getElem?_eq_none (by rw [List.length_set]; omega), List.getElem?_eq_none (by omega)]
    · rw [List.getElem?_set_ne h]
  let tb : WX → TS := fun W' D σ H => ∀ (pn : List (Addr × Obj)) (xe : Value → Shared → Prop) (tk : Takes (X.tr pn xe) W') (po : PassesOwn (model X.prog X.w) X.A X.env xe), (Classical.choose (hv W' pn xe tk po)) D σ H
  let ts : Addr → Value → Option Addr → TS := fun a _ _ D σ H => (i < σ.length → σ[i]? = some (some (.ref a))) ∧ D.nx (σ.set j (some (.ref a))) H
  refine ⟨_, ps_try_keep (tb := tb) (ts := ts) hst hfr hN hi hln hcn hex (fun W' pn xe tk po => ?_) (fun a oe cls d pn z hd' => ?_), fun S σ H ρ Ds rel P => ?_⟩
  · have hp := (Classical.choose_spec (hv W' pn xe tk po)).1
    exact ⟨fun pins s σ H D I q => hp.run pins s σ H D I (q pn xe tk po)⟩
  · have h1 := pss_one (ps_set (X := X.suite a ((a, oe) :: pn)) (pos' := py) hN hj hy (pe_var (X := X.suite a ((a, oe) :: pn)) hi hvn hd hcd) hs2 hf2)
    exact ⟨fun pins s σ H D I q => h1.run pins s σ H D I ⟨.ref a, q.1 (by rw [I.len]; exact (List.getElem?_eq_some_iff.mp hi).1), q.2⟩⟩
  · intro pn xe tk po
    refine (Classical.choose_spec (hv _ pn xe tk po)).2 S σ H ρ _ rel ?_
    unfold sTryE at P
    cases hf : f ρ with
    | ok q =>
      rw [hf] at P
      intro v S' H' st r2 _
      exact P σ S' H' ⟨st.ext, fun a h => (nown _ a h).elim⟩ FixOn.refl r2
    | exc c fs =>
      rw [hf] at P
      dsimp only at P
      split at P
      · rename_i hc
        obtain ⟨C, g1, g2, g3⟩ := hO c hc
        intro S' H' cls dd x ea
        obtain rfl : cls = .ref C := by
          have z : X.mg c = some cls := ea.1
          rw [g1] at z
          exact (Option.some.inj z).symm
        refine ⟨g2, fun a na => ?_⟩
        refine ⟨fun hil => List.getElem?_set_self (by rwa [List.length_set] at hil), ?_⟩
        have x0 : Ext (fun _ => False) S H S' H' := x.weak fun b q => nown _ b q
        have r1 := rel.ext0 x0
        have x2 := Ext.new (O := fun _ => False) (o := ExT (.ref C) dd a) r1.sub na
        have r2 := (r1.ext0 x2).set (at_exc (a := a) ea g1 g3 (r1.sub.free na)) j
        rw [sos j] at r2
        have r3 := r2.none i (no i)
        show Ds.nx (((σ.set i (some (.ref a))).set j (some (.ref a))).set i none) (upd H' a (ExT (.ref C) dd a))
        rw [List.set_comm _ _ hij, List.set_set]
        exact P _ _ _ ⟨(x0.trans x2 fun b q => .inl q).weak fun _ z => z.elim, fun b h => (nown _ b h).elim⟩ ((fix_set hfj).trans (fix_set hfi)) r3
      · exact P.elim
    | stuck => rw [hf] at P; exact P.elim
end
end SW

set_option maxRecDepth 100000
/-! SW46: an owned name compared with what a call that turns another one tells: the name owns its own still. -/
namespace SW
open PySem PySem.Spec PyProof.Rows L2
section
variable {X : Cx} {W : WX} {os os1 : Os} {e2 : Expr} {f2 : Rho → Out (D × Rho)} {pos p : Pos}
def tCmpO (g : D → D → Option D) (i : Nat) (f2 : Rho → Out (D × Rho)) : Rho → Out (Bool × Rho) := fun ρ => match ρ.getD i none with
  | some _ => (f2 ρ).bind fun q => match q.2.getD i none with
    | some d => (match g d q.1 with
      | some (.bl b) => .ok (b, q.2)
      | _ => .stuck)
    | none => .stuck
  | none => .stuck
theorem vt_cmpO (i : Nat) {x : Str} {op : CmpOp} {g : D → D → Option D} (ho : Op2 X (compareOp op) g) (hb : VE X W os e2 f2 os1 false) (hown : os.getD i false = true := by rfl) (hown1 : os1.getD i false = true := by rfl) (hN : X.N[i]? = some x := by rfl)
    (hv : Vis X.env.scope x := by first | exact Or.inl rfl | exact Or.inr (Or.inl rfl) | exact Or.inr (Or.inr rfl)) (hd : (x == ("__debug__" : Str)) = false := by decide) (hcd : (x == ("__classdict__" : Str)) = false := by decide)
    (hm : behindInMarks op e2 = false := by first | exact nomark _ | rfl) : VT X W os (.Compare (.Name x p) [op] [e2] pos) (tCmpO g i f2) os1 := by
  obtain ⟨tb, pb, kb⟩ := hb
  obtain ⟨rr, po, ko⟩ := ho
  refine ⟨_, pt_cmpR po (pe_var hN hv hd hcd) pb hm, fun S σ H ρ Q rel P => ?_⟩
  unfold tCmpO at P
  cases h0 : ρ.getD i none with
  | none => rw [h0] at P; exact P.elim
  | some d0 =>
    rw [h0] at P
    obtain ⟨v, ev, _⟩ := rel.own (getD_some h0) hown
    refine ⟨v, ev, kb S σ H ρ _ rel (Post.seq P (fun z => z) (fun c fs p => p) fun d2 ρ2 v2 S2 H2 st2 rel2 q2 P2 => ?_)⟩
    have P2 := P2.step RB.ok st2
    dsimp only at P2
    cases h1 : ρ2.getD i none with
    | none => rw [h1] at P2; exact P2.elim
    | some d1 =>
      rw [h1] at P2
      dsimp only at P2
      obtain ⟨S3, lk, rel3⟩ := freezeAll rel2
      obtain ⟨v', ev', _⟩ := rel2.own (getD_some h1) hown1
      rw [ev] at ev'
      cases ev'
      have hl : i < ρ2.length := by
        refine Classical.byContradiction fun z => ?_
        rw [List.getD_eq_getElem?_getD, List.getElem?_eq_none (by omega)] at h1
        cases h1
      have e1 : ρ2[i]? = some (some d1) := getD_some h1
      have a1 : At X.K S3 v d1 := by
        have z := rel3.slot i _ _ ev e1
        have hf : ([] : Os).getD i false = false := by simp [List.getD]
        rw [hf] at z
        exact z
      cases hc : g d1 d2 with
      | none => rw [hc] at P2; exact P2.elim
      | some c =>
        rw [hc] at P2
        refine ko S3 H2 v v2 d1 d2 c _ rel3.sub a1 (At.mono lk.s q2) hc fun u S' H' xx hat => ?_
        cases hat with
        | bl b =>
          obtain ⟨rel4, st4⟩ := lk.back rel2 (xx.weak fun _ z => z.elim)
          exact ⟨b, rfl, P2 b S2 H' st4 rel4 rfl⟩
        | _ => exact P2.elim
end
end SW

set_option maxRecDepth 100000
/-! SW51: str(a list or a tuple) in the law's own def: a promise for callers around whom nothing is being shown (no guard stands), its body rule, its end. -/
namespace SW
open PySem PySem.Spec PyProof.Rows L2

/-! ### data of which no part is a dict -/
mutual
theorem noDict_py : ∀ (d : D) (p : PyData), d.py = some p → p.hasDict = false
  | .non, p, e => by cases e; rfl
  | .bl b, p, e => by cases e; rfl
  | .int i, p, e => by cases e; rfl
  | .str z, p, e => by cases e; rfl
  | .tup ds, p, e => by
    unfold D.py at e
    cases e1 : D.pyL ds with
    | none => rw [e1] at e; cases e
    | some xs =>
      rw [e1] at e; cases e
      unfold PyData.hasDict
      exact noDict_pyL ds xs e1
  | .lst ds, p, e => by
    unfold D.py at e
    cases e1 : D.pyL ds with
    | none => rw [e1] at e; cases e
    | some xs =>
      rw [e1] at e; cases e
      unfold PyData.hasDict
      exact noDict_pyL ds xs e1
  | .scr ns, p, e => by
    cases e
    unfold PyData.hasDict
    induction ns with
    | nil => rfl
    | cons n ns ih =>
      show (PyData.hasDict (.int n) || PyData.hasDictAll (ns.map PyData.int)) = false
      rw [ih]
      rfl
  | .dct _, _, e => by cases e
  | .ins _ _, _, e => by cases e
  | .exc _ _, _, e => by cases e
  | .ty _, _, e => by cases e
theorem noDict_pyL : ∀ (ds : List D) (ps : List PyData), D.pyL ds = some ps → PyData.hasDictAll ps = false
  | [], ps, e => by cases e; rfl
  | d :: ds, ps, e => by
    unfold D.pyL at e
    cases e1 : d.py with
    | none => rw [e1] at e; cases e
    | some p1 =>
      cases e2 : D.pyL ds with
      | none => rw [e1, e2] at e; cases e
      | some p2 =>
        rw [e1, e2] at e
        cases e
        unfold PyData.hasDictAll
        rw [noDict_py d p1 e1, noDict_pyL ds p2 e2]
        rfl
end

/-! ### str(x) -/
def fitsP (p : PyData) : Bool := p.showable && (decide (p.depth ≤ 40) && decide (p.shown.length ≤ sizeLine))
def strD : List D → Option D
  | [.lst ds] => match D.py (.lst ds) with
    | some p => if fitsP p = true then some (.str p.shown) else none
    | none => none
  | [.tup ds] => match D.py (.tup ds) with
    | some p => if fitsP p = true then some (.str p.shown) else none
    | none => none
  | _ => none
section
variable {X : Cx}
theorem call_strR (hg : X.A.guards = some []) (hu : X.A.units + 64 < cLine) : CallR X (.type "str") (fun vs H Q => ∃ v S d p, vs = [v] ∧ (∃ a, v = .ref a) ∧ Same S H ∧ At X.K S v d ∧ d.py = some p ∧ fitsP p = true ∧ Q (.str p.shown) H) := by
  intro pins s σ H xs us Q I r q
  obtain ⟨v, S, d, p, rfl, ⟨a, rfl⟩, sub, hat, hp, hf, q⟩ := q
  obtain ⟨u, rfl, ru⟩ := vals1 r
  obtain ⟨as, rd⟩ := Dp.reads I p _ _ ((hat.mono sub).dp hp) ru
  obtain rfl : u = Value.ref a := ru
  unfold fitsP at hf
  rw [Bool.and_eq_true, Bool.and_eq_true] at hf
  have hd : p.depth ≤ 40 := of_decide_eq_true hf.2.1
  have hz : p.shown.length ≤ sizeLine := of_decide_eq_true hf.2.2
  exact str_of_reads rd hf.1 (PyData.noDict_hsm (noDict_py d p hp)) hg (by omega) (fun _ _ e => e) (fun h' t tk k => ⟨.str _, H, I.kept k, ⟨_, rfl⟩, q⟩) hz
theorem c_str (hg : X.A.guards = some []) (hu : X.A.units + 64 < cLine) : CallD X (.type "str") strD := by
  refine ⟨_, call_strR hg hu, fun S H vs ds c Q sub ha e k => ?_⟩
  match ds, vs, ha, e with
  | [.lst xs], [v], .cons h .nil, e =>
    have e : (match D.py (.lst xs) with
      | some p => if fitsP p = true then some (D.str p.shown) else none
      | none => none) = some c := e
    cases e1 : D.py (.lst xs) with
    | none => rw [e1] at e; cases e
    | some p =>
      rw [e1] at e
      by_cases hf : fitsP p = true
      · have e : (if fitsP p = true then some (D.str p.shown) else none) = some c := e
        rw [if_pos hf] at e
        cases e
        exact ⟨v, S, _, p, rfl, by cases h; exact ⟨_, rfl⟩, sub, h, e1, hf, k _ S H (Ext.refl sub) (.str _)⟩
      · have e : (if fitsP p = true then some (D.str p.shown) else none) = some c := e
        rw [if_neg hf] at e
        cases e
  | [.tup xs], [v], .cons h .nil, e =>
    have e : (match D.py (.tup xs) with
      | some p => if fitsP p = true then some (D.str p.shown) else none
      | none => none) = some c := e
    cases e1 : D.py (.tup xs) with
    | none => rw [e1] at e; cases e
    | some p =>
      rw [e1] at e
      by_cases hf : fitsP p = true
      · have e : (if fitsP p = true then some (D.str p.shown) else none) = some c := e
        rw [if_pos hf] at e
        cases e
        exact ⟨v, S, _, p, rfl, by cases h; exact ⟨_, rfl⟩, sub, h, e1, hf, k _ S H (Ext.refl sub) (.str _)⟩
      · have e : (if fitsP p = true then some (D.str p.shown) else none) = some c := e
        rw [if_neg hf] at e
        cases e
end

/-! ### texts compared -/
def neS : D → D → Option D
  | .str x, .str y => some (.bl (!decide (x = y)))
  | _, _ => none
theorem o_neS {X : Cx} : Op2 X (compareOp .NotEq) neS := ⟨_, op_ne, fun S H v w a b c Q sub ha hb e k => by
  match a, b, e with
  | .str x, .str y, e =>
    cases e
    cases ha
    cases hb
    have q : (decide (V.str x = V.str y)) = decide (x = y) := by
      rw [Bool.eq_iff_iff]
      simp
    refine ⟨rfl, ?_⟩
    rw [q]
    exact k _ S H (Ext.refl sub) (.bl _)⟩

/-! ### a promise for callers around whom no guard stands -/
def FnG (P : Program) (w : World) (K : PySem.W.Frag) (mg : Str → Option Value) (base : Heap) (k : Nat) (f : Addr) (fd : FuncData) (ps : List Str) (sp : Sp) : Prop :=
  ∀ (A : Around) (outer : List Env) (s : Shared) (H : Hp) (args : Args) (us : List Value) (vs : List V) (Q : VK) (E : XK), A.guards = some [] → Room k A → Env0 P w K mg base A outer s H → BindsTo s fd args (ps.zip us) → Vals vs us → sp vs H Q E →
    codeAny (model P w) A (.call (.ref f) args) (CR (L2.CX P w) outer P w H s Q E) s
section
variable {P : Program} {w : World} {K : PySem.W.Frag} {mg : Str → Option Value} {base : Heap}
theorem fn_byG {x qual : Str} {st : Stmt} {f : Addr} {fd : FuncData} {N ps : List Str} {k n : Nat} {g : Rho → Out Fl} {os osN : Os} (F : Fun K x qual st f fd) (Sc : FnScope N ps (defScope st)) (hn : n = ps.length)
    (ho : ∀ i, os.getD i false = (osP none).getD i false) (hNl : Le (osP none) osN)
    (body : ∀ (cdv : Value) (A : Around) (outer : List Env) (s : Shared) (H : Hp) (E : XK), A.guards = some [] → Room k (A.deeper (envOfC qual (defScope st) s.heap.objs.size f cdv)) →
      ∀ (X : Cx), X = cxOf (L2.CX P w) P w K mg base N qual (defScope st) f cdv A outer s H E → Takes X (fun cls d _ H' => E cls d H') → PassesOwn (model X.prog X.w) X.A X.env X.xe →
      VSs X (fun cls d _ H' => E cls d H') ⟨osP none, [], [], false⟩ os (defBody st) g osN) :
    FnG P w K mg base (k + 1) f fd ps (spec K mg n none false (runF N.length none g)) := by
  intro A outer s H args us vs Q E hgd room en bnd rel0 want
  obtain ⟨oc, od, kV, doc, pm, an, cdv, ct, osl, rfl, look, code⟩ := F.ex
  have nlen : vs.length = ps.length := by rw [want.1, hn]
  have old : ∀ {b : Addr} {o : Obj}, base.get? b = some o → s.heap.get? b = some o := fun e => (en.bs _ _ e).1
  have kin := en.mod.kin.keeps fun _ _ e => old e
  -- where each parameter lies
  have place : ∀ q ∈ ps.zip us, (defScope st).names.lookup q.1 = some .local ∨ ((defScope st).names.lookup q.1 = some .cell ∧ ((cellsFrom (s.heap.objs.size + 1) (defScope st).names []).lookup q.1).isSome = true) := by
    intro q hq
    obtain ⟨y, z⟩ := q
    cases Sc.par y (List.of_mem_zip hq).1 with
    | inl c => exact Or.inl c
    | inr c => exact Or.inr ⟨c, Option.isSome_iff_exists.mpr (cell_has c)⟩
  refine codeAny_call_function room.depth (kin f _ look) rfl Sc.co Sc.gen rfl (PySem.W.codeRec_of kin code) (bnd _ _ _ _ (wpAny_newFunctionEnv_cells Sc.kind place ?_))
  rintro env rfl s1 laid
  have lim1 := (en.mod.nolimit.keeps fun _ _ e => old e).keeps laid.toInCall.keep
  refine ⟨lim1, codeAny_func ?_⟩
  obtain ⟨_, S, ds, relS, post⟩ := want
  obtain ⟨t, walk, reach⟩ := body cdv A outer s H E hgd (room.deeper _) _ rfl (takes_of rfl rfl rfl rfl) (passes_of rfl)
  have start1 := inv_start (f := f) (cd := cdv) (qual := qual) (CX := L2.CX P w) (E := E) Sc room.hd en nlen rel0 laid
  have goal : t { nx := fun _ H' => Q .non H', rt := Q } (start N vs) H := by
    refine reach S _ H _ _ (rel_start (N := N) relS ho) ?_
    have hvl : vs.length = ds.length := by simpa using relS.len
    unfold runF at post
    cases e : g (ds.map some ++ List.replicate (N.length - ds.length) none) with
    | exc c fs =>
      rw [e] at post
      exact fun σ' S' H' cls dd x q => post S' H' cls dd (x.weak fun a q => own_start ho q) q
    | stuck => rw [e] at post; exact post.elim
    | ok z =>
      rw [e] at post
      cases z with
      | bk ρ => exact post.elim
      | ct ρ => exact post.elim
      | nx ρ => exact fun σ' S' H' s' f' r' => post .non S' H' (s'.ext.weak fun a q => own_start ho q) .non (fun k u ek => nomatch ek)
      | rt d ρ => exact fun v S' H' x hv hk => post v S' H' (x.weak fun a q => own_start ho q) hv (fun k u ek => nomatch ek)
  refine wpAny_mono (walk.run [] s1 (start N vs) H _ start1 goal) (fun fl s2 out => ?_) fun _ _ out => out
  match fl, out with
  | .ret u, ⟨v, σ', H', J, rv, q⟩ => exact ⟨v, H', J.os, J.bare, J.base, J.hok, rv, q⟩
  | .next, ⟨σ', H', J, q⟩ => exact ⟨.non, H', J.os, J.bare, J.base, J.hok, rfl, q⟩
  | .brk, ⟨_, _, _, q⟩ => exact q.elim
  | .cont, ⟨_, _, _, q⟩ => exact q.elim
end

/-! ### the end of a law whose def leans on it -/
theorem FnG.imp {P : Program} {w : World} {K : PySem.W.Frag} {mg : Str → Option Value} {base : Heap} {k : Nat} {f : Addr} {fd : FuncData} {ps : List Str} {sp sp' : Sp} (F : FnG P w K mg base k f fd ps sp) (h : ∀ vs H Q E, sp' vs H Q E → sp vs H Q E) : FnG P w K mg base k f fd ps sp' :=
  fun A outer s H args us vs Q E g r e b v q => F A outer s H args us vs Q E g r e b v (h _ _ _ _ q)
/-- what is tracked at the entry: the script at a, or nothing where the module itself holds it -/
def scrH (K : PySem.W.Frag) (a : Addr) (vs : List Value) (ns : List Int) : Hp := fun b =>
  if b = a ∧ K.lookup a = none then some (.frz { cls := .type "list", data := .seq vs.toArray } (.lst (ns.map V.int))) else none
theorem scrH_some {K : PySem.W.Frag} {a b : Addr} {vs : List Value} {ns : List Int} {o : HO} (h : scrH K a vs ns b = some o) : b = a ∧ K.lookup a = none ∧ o = .frz { cls := .type "list", data := .seq vs.toArray } (.lst (ns.map V.int)) := by
  unfold scrH at h
  split at h
  · rename_i c
    exact ⟨c.1, c.2, (Option.some.inj h).symm⟩
  · cases h
theorem scr_end {P : Program} {w : World} {K : PySem.W.Frag} {mg mb : Str → Option Value} {k : Nat} {fa a : Addr} {fd : FuncData} {x : Str} {m : List D → Out (D × D)} {s : Shared} {vs : List Value} {ns : List Int}
    (kin : K.In s.heap) (gl : s.heap.Ns mainGlobals mg) (bl : s.heap.Ns builtinsNs mb) (bb : ∀ y : Str, y ≠ "__name__" → mb y = bootBuiltins y) (lim : s.heap.NoLimit) (gens : s.gens = #[])
    (obj : s.heap.get? a = some { cls := .type "list", data := .seq vs.toArray }) (nums : IntsAre vs ns) (short : ns.length ≤ 63) (room : Room k callerA)
    (F : ∀ base : Heap, K.In base → base.Ns mainGlobals mg → FnG P w K mg base k fa fd [x] (specL K m)) (bnd : ∀ (s : Shared) (u : Value), BindsTo s fd ⟨[u], []⟩ [(x, u)])
    (law : ∀ ns : List Int, ns.length ≤ 63 → ∃ o, m [.scr ns] = .ok (.bl true, o)) :
    codeAny (model P w) callerA (.call (.ref fa) ⟨[.ref a], []⟩) (fun r s' => r = .ok (.ret (.bool true)) ∧ OldK s.heap s'.heap ∧ s'.os = s.os ∧ AllBare s'.gens) s := by
  have many : ns.length ≤ sizeLine := Nat.le_trans short (by decide)
  have vals := vals_ints nums
  generalize eH : scrH K a vs ns = H
  have at_a : ∀ {b : Addr} {o : HO}, H b = some o → b = a ∧ K.lookup a = none ∧ o = .frz { cls := .type "list", data := .seq vs.toArray } (.lst (ns.map V.int)) := fun h => scrH_some (by rw [eH]; exact h)
  have off : ∀ {b : Addr}, b ≠ a → H b = none := fun {b} n => by
    cases q : H b with
    | none => rfl
    | some o => exact (n (at_a q).1).elim
  -- the script's reading
  have script : SqL K H a (ns.map V.int) := by
    cases q : K.lookup a with
    | none => exact .inl (.inr ⟨_, by rw [← eH]; exact if_pos ⟨rfl, q⟩⟩)
    | some o =>
      have z := kin a o q
      rw [obj] at z
      cases z
      exact .inr ⟨_, vs.toArray, _, q, rfl, rfl, rfl, by rw [List.size_toArray, nums.length]; exact many, by simpa using vals⟩
  have hold : HOk P w H s.heap := fun b o q => by
    obtain ⟨rfl, _, rfl⟩ := at_a q
    exact ⟨obj, by rw [List.length_map]; exact many, vs, _, vals, obj⟩
  have free : ∀ {b : Addr} {o : Obj}, K.lookup b = some o → H b = none := fun {b o} e => by
    cases q : H b with
    | none => rfl
    | some u =>
      obtain ⟨rfl, n, _⟩ := at_a q
      rw [n] at e
      cases e
  have space : ∀ {b : Addr} {f : Str → Option Value}, s.heap.Ns b f → (hidT s.heap H).Ns b f := by
    rintro b f ⟨o, es, ep, e, d, r⟩
    refine ⟨o, es, ep, hidT_get e (off fun z => ?_), d, r⟩
    rw [z, obj] at e
    cases e
    cases d
  have kin' : K.In (hidT s.heap H) := fun b o e => hidT_get (kin b o e) (free e)
  obtain ⟨mc, c1, c2⟩ := lim
  have modu : L2.Mod K mg (hidT s.heap H) := ⟨kin', space gl, ⟨mb, space bl, bb⟩, mc, space c1, c2⟩
  have enter : Env0 P w K mg (hidT s.heap H) callerA [] s H :=
    { frames := rfl, mod := modu, bs := fun b o e => of_hidT e, bsz := Nat.le_of_eq (hidT_size _ _), funs := trivial, frf := fun b hb => absurd hb (List.not_mem_nil), hok := hold, bare := .of_eq gens }
  have wish : specL K m [.ref a] H (fun v _ => v = .bl true) fun _ _ _ => False := law_specL law short script
  refine codeAny_mono (F _ kin' (space gl) callerA [] s H ⟨[.ref a], []⟩ [.ref a] [.ref a] _ _ rfl room enter (bnd s (.ref a)) (.cons rfl .nil) wish) fun r s' out => ?_
  match r, out with
  | .error e, out => exact (SW.cx_false out).elim
  | .ok .next, out => exact out.elim
  | .ok .brk, out => exact out.elim
  | .ok .cont, out => exact out.elim
  | .ok (.ret u), ⟨v, H', os, bare, un, hold', ru, q⟩ =>
    have q : v = .bl true := q
    subst q
    obtain rfl : u = Value.bool true := ru
    refine ⟨rfl, OldK.of_keep fun b o e => ?_, os, bare⟩
    cases h : H b with
    | none => exact un.keep b o e h (fun z => (List.not_mem_nil z).elim) (by simp)
    | some u =>
      obtain ⟨rfl, _, rfl⟩ := at_a h
      have h2 := (hold' b _ (un.frzs b _ _ h)).1
      rw [obj] at e
      cases e
      exact h2
theorem walk_G {l : PySem.W.OpenLaw} {k : Nat} {q : Program} {loose : List Str} {XP : (Str → Option Value) → Heap → Prop} {YP : World → Heap → Prop} {d : DefRec} {x : Str} {m : List D → Out (D × D)}
    (most : l.most = some 63) (nodef : d.params.defaults = []) (room : Room k callerA) (law : ∀ ns : List Int, ns.length ≤ 63 → ∃ o, m [.scr ns] = .ok (.bl true, o))
    (F : ∀ (w : World) (mg : Str → Option Value) (fa : Addr) (h : Heap), YP w h → h.Ns mainGlobals mg → mg d.name = some (.ref fa) →
      ∃ K : PySem.W.Frag, K.In h ∧ ∃ fd : FuncData, (∀ (s : Shared) (u : Value), BindsTo s fd ⟨[u], []⟩ [(x, u)]) ∧ ∀ base : Heap, K.In base → base.Ns mainGlobals mg → FnG l.prog w K mg base k fa fd [x] (specL K m)) :
    PySem.W.WalkO q loose XP YP l.row.toRowW d [] (fun f vs => PySem.call f vs) := by
  refine Att.attach_callB most nodef ?_
  intro w s₀ s₁ mg mb fa o pm cd doc a vs ns gr y _ _ _ hmg obj nums short _ gens
  obtain ⟨K, kin, fd, bnd, prom⟩ := F w mg fa _ y gr.T.g hmg
  exact scr_end kin gr.T.g gr.T.b gr.T.builtins gr.T.nolimit gens obj nums short room prom bnd law
end SW

set_option maxRecDepth 100000
set_option maxHeartbeats 0
namespace Lw
open PySem PySem.Spec PyProof.Rows L2 SW
def k_MOST : D := .int 5

def k_MOST_LETTERS : D := .int 4

def k_NOUGHT : D := .tup [.int 0, .int 1]

abbrev nn__law_mixed : List Str := ["_law_cell", "_law_k", "_law_number_here"]
def b__law_mixed : Rho → Out Fl := (sSeq (sSet 2 (eOp2 addD (eOp2 addD (eOp2 repD (eOp2 addD (eOp2 modD (eVar 0) (eOp2 addD (eOp2 powD (eCon (.int 10)) (eCon (.int 18))) (eCon (.int 9)))) (eOp2 repD (eCon (.int 7)) (eVar 1))) (eCon (.int 739108512309184756019283746561))) (eOp2 repD (eCon (.int 7919)) (eVar 1))) (eCon (.int 1)))) (sSeq (sSet 2 (eOp2 modD (eOp2 repD (eVar 2) (eVar 2)) (eOp2 addD (eOp2 powD (eCon (.int 10)) (eCon (.int 60))) (eCon (.int 7))))) (sRet (eOp2 modD (eOp2 repD (eOp2 addD (eVar 2) (eCon (.int 40503))) (eOp2 addD (eVar 2) (eCon (.int 57)))) (eOp2 addD (eOp2 powD (eCon (.int 10)) (eCon (.int 60))) (eCon (.int 7)))))))
def m__law_mixed : List D → Out (D × D) := runF 3 none b__law_mixed

abbrev nn__law_purse : List Str := ["_law_cell", "_law_k"]
def b__law_purse : Rho → Out Fl := (sSeq (sIf (tVal (eOp2 geA (eVar 0) (eOp2 powD (eCon (.int 10)) (eCon (.int 18))))) (sRet (eLst (aCons (eOp2 subD (eVar 0) (eOp2 powD (eCon (.int 10)) (eCon (.int 18)))) (aCons (eCon (.int 0)) (aCons (eVar 1) aNil))))) sSkip) (sRet (eLst (aCons (eCall m__law_mixed (aCons (eVar 0) (aCons (eVar 1) aNil))) (aCons (eCon (.int 0)) (aCons (eOp2 addD (eOp2 modD (eVar 0) (eOp2 addD (eOp2 powD (eCon (.int 10)) (eCon (.int 18))) (eCon (.int 9)))) (eVar 1)) aNil))))))
def m__law_purse : List D → Out (D × D) := runF 2 none b__law_purse

abbrev nn__law_rank : List Str := ["_law_word_here"]
def b__law_rank : Rho → Out Fl := (sRet (eTup (aCons (eArg lenA (aCons (eVar 0) aNil)) (aCons (eVar 0) aNil))))
def m__law_rank : List D → Out (D × D) := runF 1 none b__law_rank

abbrev nn__law_told : List Str := ["_law_found", "_law_word_here"]
def b__law_told : Rho → Out Fl := (sRet (eComp [1] (iSeqA (eSortK m__law_rank (eVar 0))) (gName 1) tYesF (eTup (aCons (eVar 1) (aCons (eOp2 ixA (eVar 0) (eVar 1)) aNil)))))
def m__law_told : List D → Out (D × D) := runF 2 none b__law_told

abbrev nn__law_at : List Str := ["_law_script", "_law_k"]
def b__law_at : Rho → Out Fl := (sSeq (sIf (tVal (eOp2 ltA (eVar 1) (eArg lenA (aCons (eVar 0) aNil)))) (sRet (eOp2 ixA (eVar 0) (eVar 1))) sSkip) (sRet (eOp2 addD (eOp2 repD (eCon (.int 3)) (eVar 1)) (eCon (.int 1)))))
def m__law_at : List D → Out (D × D) := runF 2 none b__law_at

abbrev nn__law_take : List Str := ["_law_purse_here", "_law_many", "_law_got"]
def b__law_take : Rho → Out Fl := (sSeq (sIf (tPeek (tVal (eOp2 ltA (eOp2 ixA (eVar 0) (eCon (.int 0))) (eVar 1)))) (sSeq (sSetA 0 (eOp2 addD (eIxA 0 (eCon (.int 1))) (eCon (.int 1))) (eCon (.int 1))) (sSetA 0 (eOp2 addD (eIxA 0 (eCon (.int 0))) (eOp2 repD (eVar 1) (eCall m__law_mixed (aCons (eIxA 0 (eCon (.int 2))) (aCons (eOp2 addD (eOp2 repD (eCon (.int 11)) (eIxA 0 (eCon (.int 1)))) (eCon (.int 5))) aNil))))) (eCon (.int 0)))) sSkip) (sSeq (sSet 2 (eOp2 modD (eIxA 0 (eCon (.int 0))) (eVar 1))) (sSeq (sSetA 0 (eOp2 fdivD (eIxA 0 (eCon (.int 0))) (eVar 1)) (eCon (.int 0))) (sRet (eVar 2)))))
def m__law_take : List D → Out (D × D) := runF 3 (some 0) b__law_take

abbrev nn__law_word : List Str := ["_law_purse_here", "_law_count", "_law_most", "_law_place"]
def b__law_word : Rho → Out Fl := (sRet (eArg tupleD (aCons (eComp [3] (iRange (aCons (eCallM m__law_take 0 0 (aHoleQ 0 (aCons (eOp2 addD (eVar 2) (eCon (.int 1))) aNil))) aNil)) (gName 3) tYesF (eCallM m__law_take 0 0 (aHoleQ 0 (aCons (eVar 1) aNil)))) aNil)))
def m__law_word : List D → Out (D × D) := runF 4 (some 0) b__law_word

abbrev nn__law_low : List Str := ["_law_top", "_law_bottom", "_law_one", "_law_other"]
def b__law_low : Rho → Out Fl := (sSeq (sSet 2 (eArg absD (aCons (eVar 0) aNil))) (sSeq (sSet 3 (eVar 1)) (sSeq (sWhile (fuelInt 3) (tVal (eOp2 neD (eVar 3) (eCon (.int 0)))) (sPar 2 3 (aCons (eVar 3) (aCons (eOp2 modD (eVar 2) (eVar 3)) aNil)))) (sRet (eTup (aCons (eOp2 fdivD (eVar 0) (eVar 2)) (aCons (eOp2 fdivD (eVar 1) (eVar 2)) aNil)))))))
def m__law_low : List D → Out (D × D) := runF 4 none b__law_low

abbrev nn__law_number : List Str := ["_law_purse_here", "_law_way"]
def b__law_number : Rho → Out Fl := (sSeq (sSet 1 (eCallM m__law_take 0 0 (aHoleQ 0 (aCons (eCon (.int 5)) aNil)))) (sSeq (sIf (tVal (eOp2 ltA (eVar 1) (eCon (.int 3)))) (sRet (eOp2 ixA (eLst (aCons (eTup (aCons (eCon (.int 0)) (aCons (eCon (.int 1)) aNil))) (aCons (eTup (aCons (eCon (.int 1)) (aCons (eCon (.int 1)) aNil))) (aCons (eTup (aCons (eOp1 negD (eCon (.int 1))) (aCons (eCon (.int 1)) aNil))) aNil)))) (eVar 1))) sSkip) (sSeq (sIf (tVal (eOp2 eqD (eVar 1) (eCon (.int 3)))) (sRet (eTup (aCons (eOp2 subD (eCallM m__law_take 0 0 (aHoleQ 0 (aCons (eCon (.int 13)) aNil))) (eCon (.int 6))) (aCons (eCon (.int 1)) aNil)))) sSkip) (sRet (eCall m__law_low (aCons (eOp2 subD (eCallM m__law_take 0 0 (aHoleQ 0 (aCons (eOp2 addD (eOp2 repD (eCon (.int 2)) (eOp2 powD (eCon (.int 10)) (eCon (.int 3)))) (eCon (.int 1))) aNil))) (eOp2 powD (eCon (.int 10)) (eCon (.int 3)))) (aCons (eOp2 addD (eCon (.int 1)) (eCallM m__law_take 0 0 (aHoleQ 0 (aCons (eCon (.int 9)) aNil)))) aNil)))))))
def m__law_number : List D → Out (D × D) := runF 2 (some 0) b__law_number

abbrev nn__law_sum : List Str := ["_law_purse_here", "_law_count", "_law_many", "_law_most", "_law_found", "_law_term", "_law_word_here", "_law_number_here"]
def b__law_sum : Rho → Out Fl := (sSeq (sSet 4 eDNew) (sSeq (sFor (iRange (aCons (eCallM m__law_take 0 0 (aHoleQ 0 (aCons (eOp2 addD (eVar 2) (eCon (.int 1))) aNil))) aNil)) (gName 5) (sSeq (sSet 6 (eCallM m__law_word 0 0 (aHoleQ 0 (aCons (eVar 1) (aCons (eVar 3) aNil))))) (sSeq (sSet 7 (eCallM m__law_number 0 0 (aHoleQ 0 aNil))) (sIf (tVal (eOp2 neD (eOp2 ixA (eVar 7) (eCon (.int 0))) (eCon (.int 0)))) (sSetA 4 (eVar 7) (eVar 6)) sSkip)))) (sRet (eVar 4))))
def m__law_sum : List D → Out (D × D) := runF 8 (some 0) b__law_sum

abbrev nn_is_whole : List Str := ["one"]
def b_is_whole : Rho → Out Fl := (sRet (eAndF (eArg isiD (aCons (eVar 0) (aCons (eCon (.ty .int)) aNil))) (eNotF (eArg isiD (aCons (eVar 0) (aCons (eCon (.ty .bool)) aNil))))))
def m_is_whole : List D → Out (D × D) := runF 1 none b_is_whole

abbrev nn_check_count : List Str := ["count"]
def b_check_count : Rho → Out Fl := (sIf (tOrF (tNotF (tVal (eCall m_is_whole (aCons (eVar 0) aNil)))) (tOrF (tVal (eOp2 ltA (eVar 0) (eCon (.int 1)))) (tVal (eOp2 gtA (eVar 0) (eCon k_MOST_LETTERS))))) sStuck sSkip)
def m_check_count : List D → Out (D × D) := runF 1 none b_check_count

abbrev nn_is_word : List Str := ["word", "count", "way"]
def b_is_word : Rho → Out Fl := (sSeq (sIf (tOrF (tNotF (tVal (eArg isiD (aCons (eVar 0) (aCons (eCon (.ty .tuple)) aNil))))) (tVal (eOp2 gtA (eArg lenA (aCons (eVar 0) aNil)) (eCon k_MOST)))) (sRet (eCon (.bl false))) sSkip) (sSeq (sFor (iSeqA (eVar 0)) (gName 2) (sIf (tOrF (tNotF (tVal (eCall m_is_whole (aCons (eVar 2) aNil)))) (tOrF (tVal (eOp2 ltA (eVar 2) (eCon (.int 0)))) (tVal (eOp2 geA (eVar 2) (eVar 1))))) (sRet (eCon (.bl false))) sSkip)) (sRet (eCon (.bl true)))))
def m_is_word : List D → Out (D × D) := runF 3 none b_is_word

abbrev nn_divisor : List Str := ["one", "other"]
def b_divisor : Rho → Out Fl := (sSeq (sSet 0 (eArg absD (aCons (eVar 0) aNil))) (sSeq (sSet 1 (eArg absD (aCons (eVar 1) aNil))) (sSeq (sWhile (fuelInt 1) (tVal (eOp2 neD (eVar 1) (eCon (.int 0)))) (sPar 0 1 (aCons (eVar 1) (aCons (eOp2 modD (eVar 0) (eVar 1)) aNil)))) (sRet (eVar 0)))))
def m_divisor : List D → Out (D × D) := runF 2 none b_divisor

abbrev nn_is_number : List Str := ["one"]
def b_is_number : Rho → Out Fl := (sSeq (sIf (tOrF (tNotF (tVal (eArg isiD (aCons (eVar 0) (aCons (eCon (.ty .tuple)) aNil))))) (tVal (eOp2 neD (eArg lenA (aCons (eVar 0) aNil)) (eCon (.int 2))))) (sRet (eCon (.bl false))) sSkip) (sSeq (sIf (tOrF (tNotF (tVal (eCall m_is_whole (aCons (eOp2 ixA (eVar 0) (eCon (.int 0))) aNil)))) (tNotF (tVal (eCall m_is_whole (aCons (eOp2 ixA (eVar 0) (eCon (.int 1))) aNil))))) (sRet (eCon (.bl false))) sSkip) (sRet (eAndF (eOp2 geA (eOp2 ixA (eVar 0) (eCon (.int 1))) (eCon (.int 1))) (eOp2 eqD (eCall m_divisor (aCons (eOp2 ixA (eVar 0) (eCon (.int 0))) (aCons (eOp2 ixA (eVar 0) (eCon (.int 1))) aNil))) (eCon (.int 1)))))))
def m_is_number : List D → Out (D × D) := runF 1 none b_is_number

abbrev nn_is_term : List Str := ["told", "count"]
def b_is_term : Rho → Out Fl := (sSeq (sIf (tOrF (tNotF (tVal (eArg isiD (aCons (eVar 0) (aCons (eCon (.ty .tuple)) aNil))))) (tVal (eOp2 neD (eArg lenA (aCons (eVar 0) aNil)) (eCon (.int 2))))) (sRet (eCon (.bl false))) sSkip) (sRet (eAndF (eCall m_is_word (aCons (eOp2 ixA (eVar 0) (eCon (.int 0))) (aCons (eVar 1) aNil))) (eAndF (eCall m_is_number (aCons (eOp2 ixA (eVar 0) (eCon (.int 1))) aNil)) (eOp2 neD (eOp2 ixA (eOp2 ixA (eVar 0) (eCon (.int 1))) (eCon (.int 0))) (eCon (.int 0)))))))
def m_is_term : List D → Out (D × D) := runF 2 none b_is_term

abbrev nn_rank : List Str := ["word"]
def b_rank : Rho → Out Fl := (sRet (eTup (aCons (eArg lenA (aCons (eVar 0) aNil)) (aCons (eVar 0) aNil))))
def m_rank : List D → Out (D × D) := runF 1 none b_rank

abbrev nn_check_sum : List Str := ["count", "total", "place", "told"]
def b_check_sum : Rho → Out Fl := (sFor (iArg iEnum1 (aCons (eVar 1) aNil)) (gTup 2 (gCons (gName 2) (gCons (gName 3) gNil))) (sSeq (sIf (tNotF (tVal (eCall m_is_term (aCons (eVar 3) (aCons (eVar 0) aNil))))) sStuck sSkip) (sIf (tAndF (tVal (eOp2 gtA (eVar 2) (eCon (.int 0)))) (tVal (eOp2 geA (eCall m_rank (aCons (eOp2 ixA (eOp2 ixA (eVar 1) (eOp2 subD (eVar 2) (eCon (.int 1)))) (eCon (.int 0))) aNil)) (eCall m_rank (aCons (eOp2 ixA (eVar 3) (eCon (.int 0))) aNil))))) sStuck sSkip)))
def m_check_sum : List D → Out (D × D) := runF 4 none b_check_sum

abbrev nn_told_sum : List Str := ["numbers", "word"]
def b_told_sum : Rho → Out Fl := (sRet (eComp [1] (iSeqA (eSortK m_rank (eVar 0))) (gName 1) tYesF (eTup (aCons (eVar 1) (aCons (eOp2 ixA (eVar 0) (eVar 1)) aNil)))))
def m_told_sum : List D → Out (D × D) := runF 2 none b_told_sum

abbrev nn_lowest : List Str := ["top", "bottom", "shared"]
def b_lowest : Rho → Out Fl := (sSeq (sIf (tVal (eOp2 ltA (eVar 1) (eCon (.int 0)))) (sSeq (sSet 0 (eOp1 negD (eVar 0))) (sSet 1 (eOp1 negD (eVar 1)))) sSkip) (sSeq (sSet 2 (eCall m_divisor (aCons (eVar 0) (aCons (eVar 1) aNil)))) (sRet (eTup (aCons (eOp2 fdivD (eVar 0) (eVar 2)) (aCons (eOp2 fdivD (eVar 1) (eVar 2)) aNil))))))
def m_lowest : List D → Out (D × D) := runF 3 none b_lowest

abbrev nn_plus : List Str := ["one", "other"]
def b_plus : Rho → Out Fl := (sSeq (sIf (tAndF (tVal (eOp2 eqD (eOp2 ixA (eVar 0) (eCon (.int 1))) (eCon (.int 1)))) (tVal (eOp2 eqD (eOp2 ixA (eVar 1) (eCon (.int 1))) (eCon (.int 1))))) (sRet (eTup (aCons (eOp2 addD (eOp2 ixA (eVar 0) (eCon (.int 0))) (eOp2 ixA (eVar 1) (eCon (.int 0)))) (aCons (eCon (.int 1)) aNil)))) sSkip) (sRet (eCall m_lowest (aCons (eOp2 addD (eOp2 repD (eOp2 ixA (eVar 0) (eCon (.int 0))) (eOp2 ixA (eVar 1) (eCon (.int 1)))) (eOp2 repD (eOp2 ixA (eVar 1) (eCon (.int 0))) (eOp2 ixA (eVar 0) (eCon (.int 1))))) (aCons (eOp2 repD (eOp2 ixA (eVar 0) (eCon (.int 1))) (eOp2 ixA (eVar 1) (eCon (.int 1)))) aNil)))))
def m_plus : List D → Out (D × D) := runF 2 none b_plus

abbrev nn_put_to : List Str := ["numbers", "word", "number", "new"]
def b_put_to : Rho → Out Fl := (sSeq (sSet 3 (eCall m_plus (aCons (eDGetO 0 (eVar 1) (eCon k_NOUGHT)) (aCons (eVar 2) aNil)))) (sIf (tVal (eOp2 neD (eOp2 ixA (eVar 3) (eCon (.int 0))) (eCon (.int 0)))) (sSetA 0 (eVar 3) (eVar 1)) (sIf (tPeek (tVal (eOp2 inA (eVar 1) (eVar 0)))) (sExpr (eDPop 0 (eVar 1))) sSkip)))
def m_put_to : List D → Out (D × D) := runF 4 (some 0) b_put_to

abbrev nn_times : List Str := ["one", "other"]
def b_times : Rho → Out Fl := (sSeq (sIf (tAndF (tVal (eOp2 eqD (eOp2 ixA (eVar 0) (eCon (.int 1))) (eCon (.int 1)))) (tVal (eOp2 eqD (eOp2 ixA (eVar 1) (eCon (.int 1))) (eCon (.int 1))))) (sRet (eTup (aCons (eOp2 repD (eOp2 ixA (eVar 0) (eCon (.int 0))) (eOp2 ixA (eVar 1) (eCon (.int 0)))) (aCons (eCon (.int 1)) aNil)))) sSkip) (sRet (eCall m_lowest (aCons (eOp2 repD (eOp2 ixA (eVar 0) (eCon (.int 0))) (eOp2 ixA (eVar 1) (eCon (.int 0)))) (aCons (eOp2 repD (eOp2 ixA (eVar 0) (eCon (.int 1))) (eOp2 ixA (eVar 1) (eCon (.int 1)))) aNil)))))
def m_times : List D → Out (D × D) := runF 2 none b_times

abbrev nn_joined_short : List Str := ["one", "other", "most", "numbers", "word", "number", "behind", "much"]
def b_joined_short : Rho → Out Fl := (sSeq (sSet 3 eDNew) (sSeq (sFor (iSeqA (eVar 0)) (gTup 2 (gCons (gName 4) (gCons (gName 5) gNil))) (sFor (iSeqA (eVar 1)) (gTup 2 (gCons (gName 6) (gCons (gName 7) gNil))) (sIf (tVal (eOp2 leA (eOp2 addD (eArg lenA (aCons (eVar 4) aNil)) (eArg lenA (aCons (eVar 6) aNil))) (eVar 2))) (sExpr (eCallM m_put_to 0 3 (aHoleQ 3 (aCons (eOp2 addD (eVar 4) (eVar 6)) (aCons (eCall m_times (aCons (eVar 5) (aCons (eVar 7) aNil))) aNil))))) sSkip))) (sRet (ePeekL (eCall m_told_sum (aCons (eVar 3) aNil))))))
def m_joined_short : List D → Out (D × D) := runF 8 none b_joined_short

abbrev nn_cut_joined : List Str := ["count", "one", "other"]
def b_cut_joined : Rho → Out Fl := (sSeq (sExpr (eCall m_check_count (aCons (eVar 0) aNil))) (sSeq (sExpr (eCall m_check_sum (aCons (eVar 0) (aCons (eVar 1) aNil)))) (sSeq (sExpr (eCall m_check_sum (aCons (eVar 0) (aCons (eVar 2) aNil)))) (sRet (eCall m_joined_short (aCons (eVar 1) (aCons (eVar 2) (aCons (eCon k_MOST) aNil))))))))
def m_cut_joined : List D → Out (D × D) := runF 3 none b_cut_joined

abbrev nn__law_plus : List Str := ["_law_one", "_law_other"]
def b__law_plus : Rho → Out Fl := (sRet (eCall m__law_low (aCons (eOp2 addD (eOp2 repD (eOp2 ixA (eVar 0) (eCon (.int 0))) (eOp2 ixA (eVar 1) (eCon (.int 1)))) (eOp2 repD (eOp2 ixA (eVar 1) (eCon (.int 0))) (eOp2 ixA (eVar 0) (eCon (.int 1))))) (aCons (eOp2 repD (eOp2 ixA (eVar 0) (eCon (.int 1))) (eOp2 ixA (eVar 1) (eCon (.int 1)))) aNil))))
def m__law_plus : List D → Out (D × D) := runF 2 none b__law_plus

abbrev nn__law_put : List Str := ["_law_found", "_law_word_here", "_law_number_here"]
def b__law_put : Rho → Out Fl := (sSeq (sSetA 0 (eCall m__law_plus (aCons (eDGetO 0 (eVar 1) (eTup (aCons (eCon (.int 0)) (aCons (eCon (.int 1)) aNil)))) (aCons (eVar 2) aNil))) (eVar 1)) (sIf (tPeek (tVal (eOp2 eqD (eOp2 ixA (eOp2 ixA (eVar 0) (eVar 1)) (eCon (.int 0))) (eCon (.int 0))))) (sExpr (eDPop 0 (eVar 1))) sSkip))
def m__law_put : List D → Out (D × D) := runF 3 (some 0) b__law_put

abbrev nn__law_by : List Str := ["_law_one", "_law_other"]
def b__law_by : Rho → Out Fl := (sRet (eCall m__law_low (aCons (eOp2 repD (eOp2 ixA (eVar 0) (eCon (.int 0))) (eOp2 ixA (eVar 1) (eCon (.int 0)))) (aCons (eOp2 repD (eOp2 ixA (eVar 0) (eCon (.int 1))) (eOp2 ixA (eVar 1) (eCon (.int 1)))) aNil))))
def m__law_by : List D → Out (D × D) := runF 2 none b__law_by

abbrev nn__law_joined : List Str := ["_law_one", "_law_other", "_law_found", "_law_word_here", "_law_number_here", "_law_more", "_law_much"]
def b__law_joined : Rho → Out Fl := (sSeq (sSet 2 eDNew) (sSeq (sFor (iSeqA (eVar 0)) (gTup 2 (gCons (gName 3) (gCons (gName 4) gNil))) (sFor (iSeqA (eVar 1)) (gTup 2 (gCons (gName 5) (gCons (gName 6) gNil))) (sIf (tVal (eOp2 ltA (eOp2 addD (eArg lenA (aCons (eVar 3) aNil)) (eArg lenA (aCons (eVar 5) aNil))) (eCon (.int 6)))) (sExpr (eCallM m__law_put 0 2 (aHoleQ 2 (aCons (eOp2 addD (eVar 3) (eVar 5)) (aCons (eCall m__law_by (aCons (eVar 4) (aCons (eVar 6) aNil))) aNil))))) sSkip))) (sRet (ePeekL (eCall m__law_told (aCons (eVar 2) aNil))))))
def m__law_joined : List D → Out (D × D) := runF 7 none b__law_joined

abbrev nn_law : List Str := ["_law_script", "_law_k", "_law_purse_here", "_law_count", "_law_one", "_law_other", "_law_handed", "_law_turn", "_law_due", "_law_found"]
def b_law : Rho → Out Fl := (sSeq (sFor (iRange (aCons (eArg maxA (aCons (eCon (.int 1)) (aCons (eArg minA (aCons (eArg lenA (aCons (eVar 0) aNil)) (aCons (eCon (.int 3)) aNil))) aNil))) aNil)) (gName 1) (sSeq (sSet 2 (eCall m__law_purse (aCons (eCall m__law_at (aCons (eVar 0) (aCons (eVar 1) aNil))) (aCons (eVar 1) aNil)))) (sSeq (sSet 3 (eOp2 addD (eCon (.int 1)) (eCallM m__law_take 0 2 (aHoleQ 2 (aCons (eCon (.int 4)) aNil))))) (sSeq (sSet 4 (eCall m__law_told (aCons (eCallM m__law_sum 0 2 (aHoleQ 2 (aCons (eVar 3) (aCons (eCon (.int 4)) (aCons (eCon (.int 5)) aNil))))) aNil))) (sSeq (sSet 5 (eCall m__law_told (aCons (eCallM m__law_sum 0 2 (aHoleQ 2 (aCons (eVar 3) (aCons (eCon (.int 4)) (aCons (eCon (.int 3)) aNil))))) aNil))) (sSeq (sSet 6 (eLst (aCons (eArg listD (aCons (eVar 4) aNil)) (aCons (eArg listD (aCons (eVar 5) aNil)) aNil)))) (sFor (iRange (aCons (eCon (.int 3)) aNil)) (gName 7) (sSeq (sSet 8 (eOp2 ixA (eLst (aCons (eCall m__law_joined (aCons (eVar 4) (aCons (eVar 5) aNil))) (aCons (eCall m__law_joined (aCons (eVar 5) (aCons (eVar 4) aNil))) aNil))) (eOp2 modD (eVar 7) (eCon (.int 2))))) (sSeq (sSet 9 (eCall m_cut_joined (aCons (eVar 3) (aCons (eOp2 ixA (eVar 6) (eOp2 modD (eVar 7) (eCon (.int 2)))) (aCons (eOp2 ixA (eVar 6) (eOp2 subD (eCon (.int 1)) (eOp2 modD (eVar 7) (eCon (.int 2))))) aNil))))) (sSeq (sIf (tPeek (tOrF (tVal (eOp2 neS (eArg strD (aCons (eVar 9) aNil)) (eArg strD (aCons (eVar 8) aNil)))) (tVal (eOp2 neD (eVar 6) (eLst (aCons (eVar 4) (aCons (eVar 5) aNil))))))) (sRet (eCon (.bl false))) sSkip) (sExpr (eOwnM uClear 9 aNil)))))))))))) (sRet (eCon (.bl true))))
def m_law : List D → Out (D × D) := runF 10 none b_law

end Lw

set_option maxRecDepth 100000
set_option exponentiation.threshold 600
namespace Lw
open PySem PySem.Spec PyProof.Rows L2 SW
/-! the purse: how a cell's digits are taken -/
def mixA (c k : Int) : Int := (c % 1000000000000000009 + 7 * k) * 739108512309184756019283746561 + 7919 * k + 1
def mixB (c k : Int) : Int := mixA c k * mixA c k % 1000000000000000000000000000000000000000000000000000000000007
def mixR (c k : Int) : Int := (mixB c k + 40503) * (mixB c k + 57) % 1000000000000000000000000000000000000000000000000000000000007
theorem mixR_bound (c k : Int) : 0 ≤ mixR c k ∧ mixR c k < 1000000000000000000000000000000000000000000000000000000000007 := by
  unfold mixR
  exact ⟨Int.emod_nonneg _ (by omega), Int.emod_lt_of_pos _ (by omega)⟩
theorem natAbs_lt {i : Int} {n : Nat} (h0 : 0 ≤ i) (h : i < (n : Int)) : i.natAbs < n := by omega
theorem two_pow_cast (n : Nat) : ((2 ^ n : Nat) : Int) = (2 : Int) ^ n := by simp
theorem mix_ok (c k : Int) (h0 : 0 ≤ k) (hk : k < 2 ^ 1000) : m__law_mixed [.int c, .int k] = .ok (.int (mixR c k), .non) := by
  have b1 : bits2 7 k = true := bits2_l (by decide)
  have b2 : bits2 7919 k = true := bits2_l (by decide)
  have hc0 : 0 ≤ c % 1000000000000000009 := Int.emod_nonneg _ (by omega)
  have hc1 : c % 1000000000000000009 < 1000000000000000009 := Int.emod_lt_of_pos _ (by omega)
  have e1000 : (2 : Int) ^ 1000 = ((2 ^ 1000 : Nat) : Int) := (two_pow_cast 1000).symm
  have h1 : (c % 1000000000000000009 + 7 * k).natAbs < 2 ^ 1100 := by
    have : (2 : Nat) ^ 1100 = 2 ^ 1000 * 2 ^ 100 := by rw [← Nat.pow_add]
    have h2 : (2 : Nat) ^ 100 = 1267650600228229401496703205376 := by decide
    rw [e1000] at hk
    generalize (2 : Nat) ^ 1000 = N at hk this
    omega
  have b3 : bits2 (c % 1000000000000000009 + 7 * k) 739108512309184756019283746561 = true := bits2_of (b := 200) h1 (by decide) (by decide)
  have hA : (mixA c k).natAbs < 2 ^ 1400 := by
    unfold mixA
    have : (2 : Nat) ^ 1400 = 2 ^ 1000 * 2 ^ 400 := by rw [← Nat.pow_add]
    have h2 : (2 : Nat) ^ 400 > 10 ^ 100 := by decide
    rw [e1000] at hk
    generalize (2 : Nat) ^ 1000 = N at hk this
    generalize (2 : Nat) ^ 400 = M at h2 this
    have h3 : N * 10 ^ 100 ≤ N * M := Nat.mul_le_mul_left _ (Nat.le_of_lt h2)
    omega
  have b4 : bits2 (mixA c k) (mixA c k) = true := bits2_of hA hA (by decide)
  have hB0 : 0 ≤ mixB c k := Int.emod_nonneg _ (by omega)
  have hB1 : mixB c k < 1000000000000000000000000000000000000000000000000000000000007 := Int.emod_lt_of_pos _ (by omega)
  have b5 : bits2 (mixB c k + 40503) (mixB c k + 57) = true := by
    have h2 : (2 : Nat) ^ 300 > 10 ^ 70 := by decide
    refine bits2_of (a := 300) (b := 300) ?_ ?_ (by decide)
    · omega
    · omega
  unfold mixA at b4
  unfold mixB mixA at b5
  have e9 : (1000000000000000000 : Int) + 9 = 1000000000000000009 := by decide
  have e7 : (1000000000000000000000000000000000000000000000000000000000000 : Int) + 7 = 1000000000000000000000000000000000000000000000000000000000007 := by decide
  simp (disch := first | assumption | decide | omega) only [m__law_mixed, b__law_mixed, runF, m0, sSeq, sSet, sIf, sRet, sRetN, sExpr, sSkip_ok, sSetA, sSetIx, sFor, sPar, sBind, sAug, eVar, eCon_ok, eOp2, eOp1, eCall, eCallM, eCallT, eTup, eLst, eArg, eIf, tVal, tNotF, tAndF, tOrF, eB, eAndF, eOrF, eNotF, eIxA, eIxO, eCatO, ixA_lst, ixA_tup, ixA_scr, eDNew, eDGet, eDGetO, eDPop, eSortK, eMM, aHoleQ, aHole, aNil_ok, aCons, oNone_ok, oSome, eSlice, eSliceL, iSeqA, iSeq, iRange, iArg, ePeek, tPeek, eOwnM, tYes_ok, bind_ok, bind_exc, bind_stuck, of_some, flatD, SW.gName, List.getD_cons_zero, List.getD_cons_succ, List.set_cons_zero, List.set_cons_succ, List.map_cons, List.map_nil, List.length_cons, List.length_nil, List.cons_append, List.nil_append, List.replicate, Nat.reduceAdd, Nat.reduceSub, addD_int, subD_int, negD_int, repD_int, modD_int, fdivD_int, ltA_int, leA_int, gtA_int, geA_int, eqD_int, neD_int, pow_10_18, pow_10_60, e9, e7, mixR, mixB, mixA]
/-- a purse -/
def purseD (a b c : Int) : D := .lst [.int a, .int b, .int c]
structure Ps (n : Nat) (d : D) : Prop where
  ex : ∃ a b c : Int, d = purseD a b c ∧ 0 ≤ a ∧ 0 ≤ b ∧ b + n ≤ 2 ^ 900
theorem ix0 {a b c : Int} : ixD (.lst [.int a, .int b, .int c]) (.int 0) = some (.int a) := rfl
theorem ix1 {a b c : Int} : ixD (.lst [.int a, .int b, .int c]) (.int 1) = some (.int b) := rfl
theorem ix2 {a b c : Int} : ixD (.lst [.int a, .int b, .int c]) (.int 2) = some (.int c) := rfl
theorem ixN30 : ixN 3 0 = some 0 := by decide
theorem ixN31 : ixN 3 1 = some 1 := by decide
theorem take_ok {n : Nat} {p : D} {many : Int} (hp : Ps (n + 1) p) (h1 : 1 ≤ many) (h2 : many < 2 ^ 200) : ∃ (g : Int) (p' : D), m__law_take [p, .int many] = .ok (.int g, p') ∧ 0 ≤ g ∧ g < many ∧ Ps n p' := by
  obtain ⟨a, b, c, rfl, h0, hb, hn⟩ := hp.ex
  have e900 : (2 : Int) ^ 900 = ((2 ^ 900 : Nat) : Int) := (two_pow_cast 900).symm
  have e1000 : (2 : Int) ^ 1000 = ((2 ^ 1000 : Nat) : Int) := (two_pow_cast 1000).symm
  have ee : (2 : Nat) ^ 1000 = 2 ^ 900 * 2 ^ 100 := by rw [← Nat.pow_add]
  have e100 : (2 : Nat) ^ 100 = 1267650600228229401496703205376 := by decide
  have hk : 11 * (b + 1) + 5 < 2 ^ 1000 := by
    rw [e1000, ee]
    rw [e900] at hn
    generalize (2 : Nat) ^ 900 = N at hn ⊢
    omega
  have bm : bits2 11 (b + 1) = true := bits2_l (by decide)
  have hmix := mix_ok c (11 * (b + 1) + 5) (by omega) hk
  obtain ⟨r0, r1⟩ := mixR_bound c (11 * (b + 1) + 5)
  have bmm : bits2 many (mixR c (11 * (b + 1) + 5)) = true := by
    have h5 : (2 : Int) ^ 200 = ((2 ^ 200 : Nat) : Int) := (two_pow_cast 200).symm
    rw [h5] at h2
    refine bits2_of (a := 200) (b := 300) (natAbs_lt (by omega) h2) ?_ (by decide)
    have h2 : (2 : Nat) ^ 300 > 10 ^ 70 := by decide
    omega
  have hpos : 0 < many := by omega
  by_cases hlt : a < many
  · have hmul : 0 ≤ many * mixR c (11 * (b + 1) + 5) := Int.mul_nonneg (by omega) r0
    refine ⟨(a + many * mixR c (11 * (b + 1) + 5)) % many, purseD ((a + many * mixR c (11 * (b + 1) + 5)) / many) (b + 1) c, ?_, Int.emod_nonneg _ (by omega), Int.emod_lt_of_pos _ hpos, ⟨_, _, _, rfl, ?_, by omega, by omega⟩⟩
    · simp (disch := first | assumption | decide | omega) only [m__law_take, b__law_take, purseD, runF, m0, sSeq, sSet, sIf, sRet, sRetN, sExpr, sSkip_ok, sSetA, sSetIx, sFor, sPar, sBind, sAug, eVar, eCon_ok, eOp2, eOp1, eCall, eCallM, eCallT, eTup, eLst, eArg, eIf, tVal, tNotF, tAndF, tOrF, eB, eAndF, eOrF, eNotF, eIxA, eIxO, eCatO, ixA_lst, ixA_tup, ixA_scr, eDNew, eDGet, eDGetO, eDPop, eSortK, eMM, aHoleQ, aHole, aNil_ok, aCons, oNone_ok, oSome, eSlice, eSliceL, iSeqA, iSeq, iRange, iArg, ePeek, tPeek, eOwnM, tYes_ok, bind_ok, bind_exc, bind_stuck, of_some, flatD, SW.gName, List.getD_cons_zero, List.getD_cons_succ, List.set_cons_zero, List.set_cons_succ, List.map_cons, List.map_nil, List.length_cons, List.length_nil, List.cons_append, List.nil_append, List.replicate, Nat.reduceAdd, Nat.reduceSub, addD_int, subD_int, negD_int, repD_int, modD_int, fdivD_int, ltA_int, leA_int, gtA_int, geA_int, eqD_int, neD_int, pow_10_18, pow_10_60, ix0, ix1, ix2, decide_eq_true hlt, if_true, ixN30, ixN31, hmix, Option.getD_some]
    · exact Int.ediv_nonneg (by omega) (by omega)
  · refine ⟨a % many, purseD (a / many) b c, ?_, Int.emod_nonneg _ (by omega), Int.emod_lt_of_pos _ hpos, ⟨_, _, _, rfl, Int.ediv_nonneg h0 (by omega), hb, by omega⟩⟩
    simp (disch := first | assumption | decide | omega) only [m__law_take, b__law_take, purseD, runF, m0, sSeq, sSet, sIf, sRet, sRetN, sExpr, sSkip_ok, sSetA, sSetIx, sFor, sPar, sBind, sAug, eVar, eCon_ok, eOp2, eOp1, eCall, eCallM, eCallT, eTup, eLst, eArg, eIf, tVal, tNotF, tAndF, tOrF, eB, eAndF, eOrF, eNotF, eIxA, eIxO, eCatO, ixA_lst, ixA_tup, ixA_scr, eDNew, eDGet, eDGetO, eDPop, eSortK, eMM, aHoleQ, aHole, aNil_ok, aCons, oNone_ok, oSome, eSlice, eSliceL, iSeqA, iSeq, iRange, iArg, ePeek, tPeek, eOwnM, tYes_ok, bind_ok, bind_exc, bind_stuck, of_some, flatD, SW.gName, List.getD_cons_zero, List.getD_cons_succ, List.set_cons_zero, List.set_cons_succ, List.map_cons, List.map_nil, List.length_cons, List.length_nil, List.cons_append, List.nil_append, List.replicate, Nat.reduceAdd, Nat.reduceSub, addD_int, subD_int, negD_int, repD_int, modD_int, fdivD_int, ltA_int, leA_int, gtA_int, geA_int, eqD_int, neD_int, pow_10_18, pow_10_60, ix0, ix1, ix2, decide_eq_false hlt, if_false, Bool.false_eq_true, ixN30, ixN31, Option.getD_some]

/-! what a law reads and draws -/
theorem law_at_ok (ns : List Int) (k : Int) (hk : 0 ≤ k) : ∃ i : Int, m__law_at [.scr ns, .int k] = .ok (.int i, .non) := by
  by_cases h : k < ns.length
  · have e : ixD (.scr ns) (.int k) = some (.int (ns.getD k.toNat 0)) := by
      show (atI ns k).map D.int = _
      unfold atI ixN
      rw [if_pos hk, if_pos h]
      show (ns[k.toNat]?).map D.int = _
      rw [List.getD_eq_getElem?_getD, List.getElem?_eq_getElem (by omega)]
      rfl
    refine ⟨ns.getD k.toNat 0, ?_⟩
    · have el : lenA [.scr ns] = some (.int ns.length) := rfl
      simp (disch := first | assumption | decide | omega) only [m__law_at, b__law_at, runF, m0, sSeq, sSet, sIf, sRet, sRetN, sExpr, sSkip_ok, sSetA, sSetIx, sFor, sPar, sBind, sAug, eVar, eCon_ok, eOp2, eOp1, eCall, eCallM, eCallT, eTup, eLst, eArg, eIf, tVal, tNotF, tAndF, tOrF, eB, eAndF, eOrF, eNotF, eIxA, eIxO, eCatO, ixA_lst, ixA_tup, ixA_scr, eDNew, eDGet, eDGetO, eDPop, eSortK, eMM, aHoleQ, aHole, aNil_ok, aCons, oNone_ok, oSome, eSlice, eSliceL, iSeqA, iSeq, iRange, iArg, ePeek, tPeek, eOwnM, tYes_ok, bind_ok, bind_exc, bind_stuck, of_some, flatD, SW.gName, List.getD_cons_zero, List.getD_cons_succ, List.set_cons_zero, List.set_cons_succ, List.map_cons, List.map_nil, List.length_cons, List.length_nil, List.cons_append, List.nil_append, List.replicate, Nat.reduceAdd, Nat.reduceSub, addD_int, subD_int, negD_int, repD_int, modD_int, fdivD_int, ltA_int, leA_int, gtA_int, geA_int, eqD_int, neD_int, pow_10_18, pow_10_60, el, decide_eq_true h, if_true, e]
  · refine ⟨3 * k + 1, ?_⟩
    have el : lenA [.scr ns] = some (.int ns.length) := rfl
    have b3 : bits2 3 k = true := bits2_l (by decide)
    simp (disch := first | assumption | decide | omega) only [m__law_at, b__law_at, runF, m0, sSeq, sSet, sIf, sRet, sRetN, sExpr, sSkip_ok, sSetA, sSetIx, sFor, sPar, sBind, sAug, eVar, eCon_ok, eOp2, eOp1, eCall, eCallM, eCallT, eTup, eLst, eArg, eIf, tVal, tNotF, tAndF, tOrF, eB, eAndF, eOrF, eNotF, eIxA, eIxO, eCatO, ixA_lst, ixA_tup, ixA_scr, eDNew, eDGet, eDGetO, eDPop, eSortK, eMM, aHoleQ, aHole, aNil_ok, aCons, oNone_ok, oSome, eSlice, eSliceL, iSeqA, iSeq, iRange, iArg, ePeek, tPeek, eOwnM, tYes_ok, bind_ok, bind_exc, bind_stuck, of_some, flatD, SW.gName, List.getD_cons_zero, List.getD_cons_succ, List.set_cons_zero, List.set_cons_succ, List.map_cons, List.map_nil, List.length_cons, List.length_nil, List.cons_append, List.nil_append, List.replicate, Nat.reduceAdd, Nat.reduceSub, addD_int, subD_int, negD_int, repD_int, modD_int, fdivD_int, ltA_int, leA_int, gtA_int, geA_int, eqD_int, neD_int, pow_10_18, pow_10_60, el, decide_eq_false h, if_false, Bool.false_eq_true]
theorem purse_ok (c k : Int) (h0 : 0 ≤ k) (hk : k < 2 ^ 1000) : ∃ p, m__law_purse [.int c, .int k] = .ok (p, .non) ∧ Ps 1000000 p := by
  have e : (1000000000000000000 : Int) + 9 = 1000000000000000009 := by decide
  have big : (1000000 : Int) ≤ 2 ^ 900 := by decide
  by_cases h : (1000000000000000000 : Int) ≤ c
  · refine ⟨_, ?_, ⟨c - 1000000000000000000, 0, k, rfl, by omega, by omega, by simpa using big⟩⟩
    simp (disch := first | assumption | decide | omega) only [m__law_purse, b__law_purse, runF, m0, sSeq, sSet, sIf, sRet, sRetN, sExpr, sSkip_ok, sSetA, sSetIx, sFor, sPar, sBind, sAug, eVar, eCon_ok, eOp2, eOp1, eCall, eCallM, eCallT, eTup, eLst, eArg, eIf, tVal, tNotF, tAndF, tOrF, eB, eAndF, eOrF, eNotF, eIxA, eIxO, eCatO, ixA_lst, ixA_tup, ixA_scr, eDNew, eDGet, eDGetO, eDPop, eSortK, eMM, aHoleQ, aHole, aNil_ok, aCons, oNone_ok, oSome, eSlice, eSliceL, iSeqA, iSeq, iRange, iArg, ePeek, tPeek, eOwnM, tYes_ok, bind_ok, bind_exc, bind_stuck, of_some, flatD, SW.gName, List.getD_cons_zero, List.getD_cons_succ, List.set_cons_zero, List.set_cons_succ, List.map_cons, List.map_nil, List.length_cons, List.length_nil, List.cons_append, List.nil_append, List.replicate, Nat.reduceAdd, Nat.reduceSub, addD_int, subD_int, negD_int, repD_int, modD_int, fdivD_int, ltA_int, leA_int, gtA_int, geA_int, eqD_int, neD_int, pow_10_18, pow_10_60, decide_eq_true h, if_true, purseD]
  · refine ⟨_, ?_, ⟨mixR c k, 0, c % 1000000000000000009 + k, rfl, (mixR_bound c k).1, by omega, by simpa using big⟩⟩
    simp (disch := first | assumption | decide | omega) only [m__law_purse, b__law_purse, runF, m0, sSeq, sSet, sIf, sRet, sRetN, sExpr, sSkip_ok, sSetA, sSetIx, sFor, sPar, sBind, sAug, eVar, eCon_ok, eOp2, eOp1, eCall, eCallM, eCallT, eTup, eLst, eArg, eIf, tVal, tNotF, tAndF, tOrF, eB, eAndF, eOrF, eNotF, eIxA, eIxO, eCatO, ixA_lst, ixA_tup, ixA_scr, eDNew, eDGet, eDGetO, eDPop, eSortK, eMM, aHoleQ, aHole, aNil_ok, aCons, oNone_ok, oSome, eSlice, eSliceL, iSeqA, iSeq, iRange, iArg, ePeek, tPeek, eOwnM, tYes_ok, bind_ok, bind_exc, bind_stuck, of_some, flatD, SW.gName, List.getD_cons_zero, List.getD_cons_succ, List.set_cons_zero, List.set_cons_succ, List.map_cons, List.map_nil, List.length_cons, List.length_nil, List.cons_append, List.nil_append, List.replicate, Nat.reduceAdd, Nat.reduceSub, addD_int, subD_int, negD_int, repD_int, modD_int, fdivD_int, ltA_int, leA_int, gtA_int, geA_int, eqD_int, neD_int, pow_10_18, pow_10_60, decide_eq_false h, if_false, Bool.false_eq_true, mix_ok c k h0 hk, e, purseD]
theorem Ps.mono {n m : Nat} {p : D} (h : n ≤ m) (hp : Ps m p) : Ps n p := by
  obtain ⟨a, b, c, e, h0, hb, hn⟩ := hp.ex
  exact ⟨a, b, c, e, h0, hb, by omega⟩
theorem append_any {l : List D} {d : D} (h : l.length < 1000) : uAppend l [d] = some (.non, l ++ [d]) := by
  show (if l.length < sizeLine then some (D.non, l ++ [d]) else none) = _
  rw [if_pos (Nat.lt_trans h (by decide))]
theorem addD_lst (a b : List D) (h : a.length + b.length ≤ 1000) : addD (.lst a) (.lst b) = some (.lst (a ++ b)) := by
  show (if a.length + b.length ≤ sizeLine then some (D.lst (a ++ b)) else none) = _
  rw [if_pos (Nat.le_trans h (by decide))]
theorem cells_cut (ns : List Int) {k : Int} (h : 0 ≤ k) : sliceD (.scr ns) none (some k) = some (.lst ((ns.take k.toNat).map D.int)) := by
  show some (D.lst (cutD (ns.map .int) none (some k))) = _
  rw [cut_take _ h, List.map_take]

/-! fractions -/
def eRat : Enc Rat where
  en r := .tup [.int r.num, .int ((r.den : Nat) : Int)]
  py r := .tuple [.int r.num, .int ((r.den : Nat) : Int)]
  dp := 1
  hpy _ := rfl
  heq a b := by
    show (((a.num : Int) == b.num) && ((((a.den : Nat) : Int) == ((b.den : Nat) : Int)) && true)) = _
    rw [Bool.eq_iff_iff, Bool.and_true, Bool.and_eq_true, beq_iff_eq, beq_iff_eq, decide_eq_true_iff]
    constructor
    · rintro ⟨h1, h2⟩; exact Rat.ext h1 (by omega)
    · rintro rfl; exact ⟨rfl, rfl⟩
  lay _ := by simp [PyData.canLay0, PyData.canLayAll0]
  hdp _ := by simp [PyData.depth, PyData.depthAll]
abbrev eRow : Enc (List Rat) := eLstOf eRat
abbrev eSq : Enc (List (List Rat)) := eLstOf eRow
/-! the greatest divisor -/
theorem gcd_loop : ∀ (n a b : Nat), b < n → whileL (tVal (eOp2 neD (eVar 1) (eCon (.int 0)))) (sPar 0 1 (aCons (eVar 1) (aCons (eOp2 modD (eVar 0) (eVar 1)) aNil))) n [some (.int ((a : Nat) : Int)), some (.int ((b : Nat) : Int))] = .ok (.nx [some (.int ((Nat.gcd a b : Nat) : Int)), some (.int 0)])
  | 0, a, b, h => by omega
  | n + 1, a, b, h => by
    by_cases hb : b = 0
    · subst hb
      unfold whileL
      have d0 : ((0 : Nat) : Int) = 0 := rfl
      simp (disch := first | assumption | decide | omega) only [runF, m0, sSeq, sSet, sIf, sRet, sRetN, sExpr, sSkip_ok, sSetA, sSetIx, sFor, sPar, sBind, sAug, eVar, eCon_ok, eOp2, eOp1, eCall, eCallM, eCallT, eTup, eLst, eArg, eIf, tVal, tNotF, tAndF, tOrF, eB, eAndF, eOrF, eNotF, eIxA, eIxO, eCatO, ixA_lst, ixA_tup, ixA_scr, eDNew, eDGet, eDGetO, eDPop, eSortK, eMM, aHoleQ, aHole, aNil_ok, aCons, oNone_ok, oSome, eSlice, eSliceL, iSeqA, iSeq, iRange, iArg, ePeek, tPeek, eOwnM, tYes_ok, bind_ok, bind_exc, bind_stuck, of_some, flatD, SW.gName, List.getD_cons_zero, List.getD_cons_succ, List.set_cons_zero, List.set_cons_succ, List.map_cons, List.map_nil, List.length_cons, List.length_nil, List.cons_append, List.nil_append, List.replicate, Nat.reduceAdd, Nat.reduceSub, addD_int, subD_int, negD_int, repD_int, modD_int, fdivD_int, ltA_int, leA_int, gtA_int, geA_int, eqD_int, neD_int, pow_10_18, pow_10_60, decide_eq_true d0, Bool.not_true, Bool.false_eq_true, if_false, Nat.gcd_zero_right]
      rfl
    · have d0 : ¬ ((b : Nat) : Int) = 0 := by omega
      have dp : (0 : Int) < ((b : Nat) : Int) := by omega
      have hm : a % b < b := Nat.mod_lt _ (by omega)
      have ih := gcd_loop n b (a % b) (by omega)
      have eg : Nat.gcd b (a % b) = Nat.gcd a b := by rw [Nat.gcd_comm a b, Nat.gcd_rec b a, Nat.gcd_comm]
      have em : ((a : Nat) : Int) % ((b : Nat) : Int) = ((a % b : Nat) : Int) := (Int.natCast_emod a b).symm
      rw [eg] at ih
      unfold whileL
      simp (disch := first | assumption | decide | omega) only [tVal, eOp2, eVar, eCon_ok, bind_ok, of_some, neD_int, List.getD_cons_zero, List.getD_cons_succ, decide_eq_false d0, Bool.not_false, if_true, sPar, aCons, aNil_ok, modD_int dp, em, List.set_cons_zero, List.set_cons_succ]
      exact ih
theorem absD_int (i : Int) : absD [.int i] = some (.int ((i.natAbs : Nat) : Int)) := by
  show some (D.int (if i < 0 then -i else i)) = _
  congr 2
  split <;> omega
theorem divisor_ok (a b : Int) : m_divisor [.int a, .int b] = .ok (.int ((Nat.gcd a.natAbs b.natAbs : Nat) : Int), .non) := by
  have e := gcd_loop (b.natAbs + 1) a.natAbs b.natAbs (by omega)
  have ef : fuelInt 1 [some (.int ((a.natAbs : Nat) : Int)), some (.int ((b.natAbs : Nat) : Int))] = b.natAbs + 1 := by
    show ((b.natAbs : Nat) : Int).natAbs + 1 = _
    rw [Int.natAbs_natCast]
  simp (disch := first | assumption | decide | omega) only [m_divisor, b_divisor, runF, m0, sSeq, sSet, sIf, sRet, sRetN, sExpr, sSkip_ok, sSetA, sSetIx, sFor, sPar, sBind, sAug, eVar, eCon_ok, eOp2, eOp1, eCall, eCallM, eCallT, eTup, eLst, eArg, eIf, tVal, tNotF, tAndF, tOrF, eB, eAndF, eOrF, eNotF, eIxA, eIxO, eCatO, ixA_lst, ixA_tup, ixA_scr, eDNew, eDGet, eDGetO, eDPop, eSortK, eMM, aHoleQ, aHole, aNil_ok, aCons, oNone_ok, oSome, eSlice, eSliceL, iSeqA, iSeq, iRange, iArg, ePeek, tPeek, eOwnM, tYes_ok, bind_ok, bind_exc, bind_stuck, of_some, flatD, SW.gName, List.getD_cons_zero, List.getD_cons_succ, List.set_cons_zero, List.set_cons_succ, List.map_cons, List.map_nil, List.length_cons, List.length_nil, List.cons_append, List.nil_append, List.replicate, Nat.reduceAdd, Nat.reduceSub, addD_int, subD_int, negD_int, repD_int, modD_int, fdivD_int, ltA_int, leA_int, gtA_int, geA_int, eqD_int, neD_int, pow_10_18, pow_10_60, absD_int, sWhile, ef]
  rw [e]
  rfl
theorem mkRat_num' (t : Int) {d : Nat} (hd : d ≠ 0) : (mkRat t d).num = t / ((Nat.gcd t.natAbs d : Nat) : Int) := by
  rw [Rat.num_mkRat, if_neg hd, Nat.gcd_comm]
theorem mkRat_den' (t : Int) {d : Nat} (hd : d ≠ 0) : (mkRat t d).den = d / Nat.gcd t.natAbs d := by
  rw [Rat.den_mkRat, if_neg hd, Nat.gcd_comm]
theorem lowest_ok (t : Int) {d : Nat} (hd : d ≠ 0) : m_lowest [.int t, .int ((d : Nat) : Int)] = .ok (eRat.en (mkRat t d), .non) := by
  have e := divisor_ok t ((d : Nat) : Int)
  rw [Int.natAbs_natCast] at e
  have g0 : 0 < Nat.gcd t.natAbs d := Nat.gcd_pos_of_pos_right _ (by omega)
  have gl : Nat.gcd t.natAbs d ≤ d := Nat.le_of_dvd (by omega) (Nat.gcd_dvd_right _ _)
  have g1 : (0 : Int) < ((Nat.gcd t.natAbs d : Nat) : Int) := by omega
  have dn : ¬ ((d : Nat) : Int) < 0 := by omega
  have f1 := fdivD_int (i := t) g1
  have f2 := fdivD_int (i := ((d : Nat) : Int)) g1
  have e2 : ((d : Nat) : Int) / ((Nat.gcd t.natAbs d : Nat) : Int) = ((d / Nat.gcd t.natAbs d : Nat) : Int) := (Int.natCast_ediv _ _).symm
  rw [e2] at f2
  show _ = Out.ok (D.tup [.int (mkRat t d).num, .int (((mkRat t d).den : Nat) : Int)], _)
  rw [mkRat_num' t hd, mkRat_den' t hd]
  simp (disch := first | assumption | decide | omega) only [m_lowest, b_lowest, runF, m0, sSeq, sSet, sIf, sRet, sRetN, sExpr, sSkip_ok, sSetA, sSetIx, sFor, sPar, sBind, sAug, eVar, eCon_ok, eOp2, eOp1, eCall, eCallM, eCallT, eTup, eLst, eArg, eIf, tVal, tNotF, tAndF, tOrF, eB, eAndF, eOrF, eNotF, eIxA, eIxO, eCatO, ixA_lst, ixA_tup, ixA_scr, eDNew, eDGet, eDGetO, eDPop, eSortK, eMM, aHoleQ, aHole, aNil_ok, aCons, oNone_ok, oSome, eSlice, eSliceL, iSeqA, iSeq, iRange, iArg, ePeek, tPeek, eOwnM, tYes_ok, bind_ok, bind_exc, bind_stuck, of_some, flatD, SW.gName, List.getD_cons_zero, List.getD_cons_succ, List.set_cons_zero, List.set_cons_succ, List.map_cons, List.map_nil, List.length_cons, List.length_nil, List.cons_append, List.nil_append, List.replicate, Nat.reduceAdd, Nat.reduceSub, addD_int, subD_int, negD_int, repD_int, modD_int, fdivD_int, ltA_int, leA_int, gtA_int, geA_int, eqD_int, neD_int, pow_10_18, pow_10_60, decide_eq_false dn, Bool.false_eq_true, if_false, e, f1, f2]
/-! how great a fraction is -/
structure Sz (k : Nat) (r : Rat) : Prop where
  n : r.num.natAbs < 2 ^ k
  d : r.den < 2 ^ k
theorem Sz.mono {k m : Nat} {r : Rat} (h : Sz k r) (hm : k ≤ m) : Sz m r := ⟨Nat.lt_of_lt_of_le h.n (Nat.pow_le_pow_right (by decide) hm), Nat.lt_of_lt_of_le h.d (Nat.pow_le_pow_right (by decide) hm)⟩
theorem sz_mk {k : Nat} {t : Int} {d : Nat} (h1 : t.natAbs < 2 ^ k) (h2 : d < 2 ^ k) (h0 : 0 < k) : Sz k (mkRat t d) := by
  by_cases hd : d = 0
  · subst hd
    rw [Rat.mkRat_zero]
    exact ⟨Nat.pow_pos (by decide), Nat.one_lt_two_pow (by omega)⟩
  · refine ⟨?_, ?_⟩
    · rw [mkRat_num' t hd]
      exact Nat.lt_of_le_of_lt (Int.natAbs_ediv_le_natAbs _ _) h1
    · rw [mkRat_den' t hd]
      exact Nat.lt_of_le_of_lt (Nat.div_le_self _ _) h2
theorem mul_lt_pow {a b i j : Nat} (h1 : a < 2 ^ i) (h2 : b < 2 ^ j) : a * b < 2 ^ (i + j) := by
  rw [Nat.pow_add]
  rcases Nat.eq_zero_or_pos b with hb | hb
  · subst hb
    rw [Nat.mul_zero]
    exact Nat.mul_pos (Nat.pow_pos (by decide)) (Nat.pow_pos (by decide))
  · exact Nat.lt_of_lt_of_le (Nat.mul_lt_mul_of_pos_right h1 hb) (Nat.mul_le_mul_left _ (Nat.le_of_lt h2))
theorem den_pos' (r : Rat) : 0 < r.den := Nat.pos_of_ne_zero r.den_nz
theorem Sz.pos {k : Nat} {r : Rat} (h : Sz k r) : 0 < k := by
  rcases Nat.eq_zero_or_pos k with z | z
  · subst z
    have := h.d
    have := den_pos' r
    omega
  · exact z
theorem Sz.mul {i j : Nat} {a b : Rat} (h1 : Sz i a) (h2 : Sz j b) : Sz (i + j) (a * b) := by
  rw [Rat.mul_def']
  refine sz_mk ?_ (mul_lt_pow h1.d h2.d) (by have := h1.pos; omega)
  rw [Int.natAbs_mul]
  exact mul_lt_pow h1.n h2.n
theorem Sz.add {i j : Nat} {a b : Rat} (h1 : Sz i a) (h2 : Sz j b) : Sz (i + j + 1) (a + b) := by
  rw [Rat.add_def']
  have m1 := mul_lt_pow h1.n h2.d
  have m2 := mul_lt_pow h2.n h1.d
  have m3 := mul_lt_pow h1.d h2.d
  have e : (2 : Nat) ^ (i + j + 1) = 2 ^ (i + j) + 2 ^ (i + j) := by rw [Nat.pow_succ]; omega
  have e2 : j + i = i + j := by omega
  rw [e2] at m2
  refine sz_mk ?_ ?_ (by omega)
  · rw [e]
    refine Nat.lt_of_le_of_lt (Int.natAbs_add_le _ _) ?_
    rw [Int.natAbs_mul, Int.natAbs_mul, Int.natAbs_natCast, Int.natAbs_natCast]
    exact Nat.add_lt_add m1 m2
  · rw [e]; exact Nat.lt_of_lt_of_le m3 (Nat.le_add_right _ _)
theorem Sz.neg {i : Nat} {a : Rat} (h : Sz i a) : Sz i (-a) := ⟨by rw [Rat.neg_num, Int.natAbs_neg]; exact h.n, by rw [Rat.neg_den]; exact h.d⟩
theorem sz_zero {i : Nat} (h : 0 < i) : Sz i 0 := ⟨Nat.pow_pos (by decide), Nat.one_lt_two_pow (by omega)⟩
theorem sz_one {i : Nat} (h : 0 < i) : Sz i 1 := ⟨Nat.one_lt_two_pow (by omega), Nat.one_lt_two_pow (by omega)⟩
theorem den_natAbs (r : Rat) : (((r.den : Nat) : Int)).natAbs = r.den := Int.natAbs_natCast _
theorem bits_nd {i j : Nat} {a b : Rat} (h1 : Sz i a) (h2 : Sz j b) (h : i + j ≤ 100000000) : bits2 a.num ((b.den : Nat) : Int) = true := bits2_of h1.n (by rw [den_natAbs]; exact h2.d) (by omega)
theorem bits_nn {i j : Nat} {a b : Rat} (h1 : Sz i a) (h2 : Sz j b) (h : i + j ≤ 100000000) : bits2 a.num b.num = true := bits2_of h1.n h2.n (by omega)
theorem bits_dd {i j : Nat} {a b : Rat} (h1 : Sz i a) (h2 : Sz j b) (h : i + j ≤ 100000000) : bits2 ((a.den : Nat) : Int) ((b.den : Nat) : Int) = true := bits2_of (by rw [den_natAbs]; exact h1.d) (by rw [den_natAbs]; exact h2.d) (by omega)
theorem r0 (a : Rat) : ixA (eRat.en a) (.int 0) = some (.int a.num) := rfl
theorem r1 (a : Rat) : ixA (eRat.en a) (.int 1) = some (.int ((a.den : Nat) : Int)) := rfl
theorem dd_ne (a b : Rat) : a.den * b.den ≠ 0 := Nat.mul_ne_zero a.den_nz b.den_nz
theorem rat_en {r : Rat} {n : Int} {d : Nat} (h1 : r.num = n) (h2 : r.den = d) : eRat.en r = .tup [.int n, .int ((d : Nat) : Int)] := by subst h1; subst h2; rfl
theorem mkRat_one (n : Int) : (mkRat n 1).num = n ∧ (mkRat n 1).den = 1 := by
  rw [mkRat_num' n (by decide), mkRat_den' n (by decide), Nat.gcd_one_right]
  exact ⟨by simp, rfl⟩
theorem add_whole {a b : Rat} (ha : a.den = 1) (hb : b.den = 1) : eRat.en (a + b) = .tup [.int (a.num + b.num), .int 1] := by
  have e : a + b = mkRat (a.num + b.num) 1 := by rw [Rat.add_def', ha, hb]; simp
  rw [e]
  exact rat_en (mkRat_one _).1 (mkRat_one _).2
theorem mul_whole {a b : Rat} (ha : a.den = 1) (hb : b.den = 1) : eRat.en (a * b) = .tup [.int (a.num * b.num), .int 1] := by
  have e : a * b = mkRat (a.num * b.num) 1 := by rw [Rat.mul_def', ha, hb]
  rw [e]
  exact rat_en (mkRat_one _).1 (mkRat_one _).2
theorem plus_ok {i j : Nat} {a b : Rat} (h1 : Sz i a) (h2 : Sz j b) (h : i + j ≤ 100000000) : m_plus [eRat.en a, eRat.en b] = .ok (eRat.en (a + b), .non) := by
  have e := lowest_ok (a.num * ((b.den : Nat) : Int) + b.num * ((a.den : Nat) : Int)) (dd_ne a b)
  rw [← Rat.add_def', Int.natCast_mul] at e
  have b1 := bits_nd h1 h2 h
  have b2 := bits_nd h2 h1 (by omega)
  have b3 := bits_dd h1 h2 h
  by_cases ha : a.den = 1
  · have ha' : ((a.den : Nat) : Int) = 1 := by omega
    by_cases hb : b.den = 1
    · have hb' : ((b.den : Nat) : Int) = 1 := by omega
      rw [add_whole ha hb]
      simp (disch := first | assumption | decide | omega) only [m_plus, b_plus, runF, m0, sSeq, sSet, sIf, sRet, sRetN, sExpr, sSkip_ok, sSetA, sSetIx, sFor, sPar, sBind, sAug, eVar, eCon_ok, eOp2, eOp1, eCall, eCallM, eCallT, eTup, eLst, eArg, eIf, tVal, tNotF, tAndF, tOrF, eB, eAndF, eOrF, eNotF, eIxA, eIxO, eCatO, ixA_lst, ixA_tup, ixA_scr, eDNew, eDGet, eDGetO, eDPop, eSortK, eMM, aHoleQ, aHole, aNil_ok, aCons, oNone_ok, oSome, eSlice, eSliceL, iSeqA, iSeq, iRange, iArg, ePeek, tPeek, eOwnM, tYes_ok, bind_ok, bind_exc, bind_stuck, of_some, flatD, SW.gName, List.getD_cons_zero, List.getD_cons_succ, List.set_cons_zero, List.set_cons_succ, List.map_cons, List.map_nil, List.length_cons, List.length_nil, List.cons_append, List.nil_append, List.replicate, Nat.reduceAdd, Nat.reduceSub, addD_int, subD_int, negD_int, repD_int, modD_int, fdivD_int, ltA_int, leA_int, gtA_int, geA_int, eqD_int, neD_int, pow_10_18, pow_10_60, r0, r1, decide_eq_true ha', decide_eq_true hb', if_true]
    · have hb' : ¬ ((b.den : Nat) : Int) = 1 := by omega
      simp (disch := first | assumption | decide | omega) only [m_plus, b_plus, runF, m0, sSeq, sSet, sIf, sRet, sRetN, sExpr, sSkip_ok, sSetA, sSetIx, sFor, sPar, sBind, sAug, eVar, eCon_ok, eOp2, eOp1, eCall, eCallM, eCallT, eTup, eLst, eArg, eIf, tVal, tNotF, tAndF, tOrF, eB, eAndF, eOrF, eNotF, eIxA, eIxO, eCatO, ixA_lst, ixA_tup, ixA_scr, eDNew, eDGet, eDGetO, eDPop, eSortK, eMM, aHoleQ, aHole, aNil_ok, aCons, oNone_ok, oSome, eSlice, eSliceL, iSeqA, iSeq, iRange, iArg, ePeek, tPeek, eOwnM, tYes_ok, bind_ok, bind_exc, bind_stuck, of_some, flatD, SW.gName, List.getD_cons_zero, List.getD_cons_succ, List.set_cons_zero, List.set_cons_succ, List.map_cons, List.map_nil, List.length_cons, List.length_nil, List.cons_append, List.nil_append, List.replicate, Nat.reduceAdd, Nat.reduceSub, addD_int, subD_int, negD_int, repD_int, modD_int, fdivD_int, ltA_int, leA_int, gtA_int, geA_int, eqD_int, neD_int, pow_10_18, pow_10_60, r0, r1, decide_eq_true ha', decide_eq_false hb', if_true, Bool.false_eq_true, if_false, e]
  · have ha' : ¬ ((a.den : Nat) : Int) = 1 := by omega
    simp (disch := first | assumption | decide | omega) only [m_plus, b_plus, runF, m0, sSeq, sSet, sIf, sRet, sRetN, sExpr, sSkip_ok, sSetA, sSetIx, sFor, sPar, sBind, sAug, eVar, eCon_ok, eOp2, eOp1, eCall, eCallM, eCallT, eTup, eLst, eArg, eIf, tVal, tNotF, tAndF, tOrF, eB, eAndF, eOrF, eNotF, eIxA, eIxO, eCatO, ixA_lst, ixA_tup, ixA_scr, eDNew, eDGet, eDGetO, eDPop, eSortK, eMM, aHoleQ, aHole, aNil_ok, aCons, oNone_ok, oSome, eSlice, eSliceL, iSeqA, iSeq, iRange, iArg, ePeek, tPeek, eOwnM, tYes_ok, bind_ok, bind_exc, bind_stuck, of_some, flatD, SW.gName, List.getD_cons_zero, List.getD_cons_succ, List.set_cons_zero, List.set_cons_succ, List.map_cons, List.map_nil, List.length_cons, List.length_nil, List.cons_append, List.nil_append, List.replicate, Nat.reduceAdd, Nat.reduceSub, addD_int, subD_int, negD_int, repD_int, modD_int, fdivD_int, ltA_int, leA_int, gtA_int, geA_int, eqD_int, neD_int, pow_10_18, pow_10_60, r0, r1, decide_eq_false ha', Bool.false_eq_true, if_false, e]
theorem times_ok {i j : Nat} {a b : Rat} (h1 : Sz i a) (h2 : Sz j b) (h : i + j ≤ 100000000) : m_times [eRat.en a, eRat.en b] = .ok (eRat.en (a * b), .non) := by
  have e := lowest_ok (a.num * b.num) (dd_ne a b)
  rw [← Rat.mul_def', Int.natCast_mul] at e
  have b1 := bits_nn h1 h2 h
  have b3 := bits_dd h1 h2 h
  by_cases ha : a.den = 1
  · have ha' : ((a.den : Nat) : Int) = 1 := by omega
    by_cases hb : b.den = 1
    · have hb' : ((b.den : Nat) : Int) = 1 := by omega
      rw [mul_whole ha hb]
      simp (disch := first | assumption | decide | omega) only [m_times, b_times, runF, m0, sSeq, sSet, sIf, sRet, sRetN, sExpr, sSkip_ok, sSetA, sSetIx, sFor, sPar, sBind, sAug, eVar, eCon_ok, eOp2, eOp1, eCall, eCallM, eCallT, eTup, eLst, eArg, eIf, tVal, tNotF, tAndF, tOrF, eB, eAndF, eOrF, eNotF, eIxA, eIxO, eCatO, ixA_lst, ixA_tup, ixA_scr, eDNew, eDGet, eDGetO, eDPop, eSortK, eMM, aHoleQ, aHole, aNil_ok, aCons, oNone_ok, oSome, eSlice, eSliceL, iSeqA, iSeq, iRange, iArg, ePeek, tPeek, eOwnM, tYes_ok, bind_ok, bind_exc, bind_stuck, of_some, flatD, SW.gName, List.getD_cons_zero, List.getD_cons_succ, List.set_cons_zero, List.set_cons_succ, List.map_cons, List.map_nil, List.length_cons, List.length_nil, List.cons_append, List.nil_append, List.replicate, Nat.reduceAdd, Nat.reduceSub, addD_int, subD_int, negD_int, repD_int, modD_int, fdivD_int, ltA_int, leA_int, gtA_int, geA_int, eqD_int, neD_int, pow_10_18, pow_10_60, r0, r1, decide_eq_true ha', decide_eq_true hb', if_true]
    · have hb' : ¬ ((b.den : Nat) : Int) = 1 := by omega
      simp (disch := first | assumption | decide | omega) only [m_times, b_times, runF, m0, sSeq, sSet, sIf, sRet, sRetN, sExpr, sSkip_ok, sSetA, sSetIx, sFor, sPar, sBind, sAug, eVar, eCon_ok, eOp2, eOp1, eCall, eCallM, eCallT, eTup, eLst, eArg, eIf, tVal, tNotF, tAndF, tOrF, eB, eAndF, eOrF, eNotF, eIxA, eIxO, eCatO, ixA_lst, ixA_tup, ixA_scr, eDNew, eDGet, eDGetO, eDPop, eSortK, eMM, aHoleQ, aHole, aNil_ok, aCons, oNone_ok, oSome, eSlice, eSliceL, iSeqA, iSeq, iRange, iArg, ePeek, tPeek, eOwnM, tYes_ok, bind_ok, bind_exc, bind_stuck, of_some, flatD, SW.gName, List.getD_cons_zero, List.getD_cons_succ, List.set_cons_zero, List.set_cons_succ, List.map_cons, List.map_nil, List.length_cons, List.length_nil, List.cons_append, List.nil_append, List.replicate, Nat.reduceAdd, Nat.reduceSub, addD_int, subD_int, negD_int, repD_int, modD_int, fdivD_int, ltA_int, leA_int, gtA_int, geA_int, eqD_int, neD_int, pow_10_18, pow_10_60, r0, r1, decide_eq_true ha', decide_eq_false hb', if_true, Bool.false_eq_true, if_false, e]
  · have ha' : ¬ ((a.den : Nat) : Int) = 1 := by omega
    simp (disch := first | assumption | decide | omega) only [m_times, b_times, runF, m0, sSeq, sSet, sIf, sRet, sRetN, sExpr, sSkip_ok, sSetA, sSetIx, sFor, sPar, sBind, sAug, eVar, eCon_ok, eOp2, eOp1, eCall, eCallM, eCallT, eTup, eLst, eArg, eIf, tVal, tNotF, tAndF, tOrF, eB, eAndF, eOrF, eNotF, eIxA, eIxO, eCatO, ixA_lst, ixA_tup, ixA_scr, eDNew, eDGet, eDGetO, eDPop, eSortK, eMM, aHoleQ, aHole, aNil_ok, aCons, oNone_ok, oSome, eSlice, eSliceL, iSeqA, iSeq, iRange, iArg, ePeek, tPeek, eOwnM, tYes_ok, bind_ok, bind_exc, bind_stuck, of_some, flatD, SW.gName, List.getD_cons_zero, List.getD_cons_succ, List.set_cons_zero, List.set_cons_succ, List.map_cons, List.map_nil, List.length_cons, List.length_nil, List.cons_append, List.nil_append, List.replicate, Nat.reduceAdd, Nat.reduceSub, addD_int, subD_int, negD_int, repD_int, modD_int, fdivD_int, ltA_int, leA_int, gtA_int, geA_int, eqD_int, neD_int, pow_10_18, pow_10_60, r0, r1, decide_eq_false ha', Bool.false_eq_true, if_false, e]

/-! fractions of the law; what is a number -/
theorem is_whole_ok (i : Int) : m_is_whole [.int i] = .ok (.bl true, .non) := rfl
theorem gcd_loop2 : ∀ (n a b : Nat) (x y : Option D), b < n → whileL (tVal (eOp2 neD (eVar 3) (eCon (.int 0)))) (sPar 2 3 (aCons (eVar 3) (aCons (eOp2 modD (eVar 2) (eVar 3)) aNil))) n [x, y, some (.int ((a : Nat) : Int)), some (.int ((b : Nat) : Int))] = .ok (.nx [x, y, some (.int ((Nat.gcd a b : Nat) : Int)), some (.int 0)])
  | 0, a, b, x, y, h => by omega
  | n + 1, a, b, x, y, h => by
    by_cases hb : b = 0
    · subst hb
      unfold whileL
      have d0 : ((0 : Nat) : Int) = 0 := rfl
      simp (disch := first | assumption | decide | omega) only [runF, m0, sSeq, sSet, sIf, sRet, sRetN, sExpr, sSkip_ok, sSetA, sSetIx, sFor, sPar, sBind, sAug, eVar, eCon_ok, eOp2, eOp1, eCall, eCallM, eCallT, eTup, eLst, eArg, eIf, tVal, tNotF, tAndF, tOrF, eB, eAndF, eOrF, eNotF, eIxA, eIxO, eCatO, ixA_lst, ixA_tup, ixA_scr, eDNew, eDGet, eDGetO, eDPop, eSortK, eMM, aHoleQ, aHole, aNil_ok, aCons, oNone_ok, oSome, eSlice, eSliceL, iSeqA, iSeq, iRange, iArg, ePeek, tPeek, eOwnM, tYes_ok, bind_ok, bind_exc, bind_stuck, of_some, flatD, SW.gName, List.getD_cons_zero, List.getD_cons_succ, List.set_cons_zero, List.set_cons_succ, List.map_cons, List.map_nil, List.length_cons, List.length_nil, List.cons_append, List.nil_append, List.replicate, Nat.reduceAdd, Nat.reduceSub, addD_int, subD_int, negD_int, repD_int, modD_int, fdivD_int, ltA_int, leA_int, gtA_int, geA_int, eqD_int, neD_int, pow_10_18, pow_10_60, decide_eq_true d0, Bool.not_true, Bool.false_eq_true, if_false, Nat.gcd_zero_right]
      rfl
    · have d0 : ¬ ((b : Nat) : Int) = 0 := by omega
      have dp : (0 : Int) < ((b : Nat) : Int) := by omega
      have hm : a % b < b := Nat.mod_lt _ (by omega)
      have ih := gcd_loop2 n b (a % b) x y (by omega)
      have eg : Nat.gcd b (a % b) = Nat.gcd a b := by rw [Nat.gcd_comm a b, Nat.gcd_rec b a, Nat.gcd_comm]
      have em : ((a : Nat) : Int) % ((b : Nat) : Int) = ((a % b : Nat) : Int) := (Int.natCast_emod a b).symm
      rw [eg] at ih
      unfold whileL
      simp (disch := first | assumption | decide | omega) only [tVal, eOp2, eVar, eCon_ok, bind_ok, of_some, neD_int, List.getD_cons_zero, List.getD_cons_succ, decide_eq_false d0, Bool.not_false, if_true, sPar, aCons, aNil_ok, modD_int dp, em, List.set_cons_zero, List.set_cons_succ]
      exact ih
theorem law_low_ok (t : Int) {d : Nat} (hd : d ≠ 0) : m__law_low [.int t, .int ((d : Nat) : Int)] = .ok (eRat.en (mkRat t d), .non) := by
  have e := gcd_loop2 (d + 1) t.natAbs d (some (.int t)) (some (.int ((d : Nat) : Int))) (by omega)
  have ef : fuelInt 3 [some (.int t), some (.int ((d : Nat) : Int)), some (.int ((t.natAbs : Nat) : Int)), some (.int ((d : Nat) : Int))] = d + 1 := by
    show ((d : Nat) : Int).natAbs + 1 = _
    rw [Int.natAbs_natCast]
  have g0 : 0 < Nat.gcd t.natAbs d := Nat.gcd_pos_of_pos_right _ (by omega)
  have gl : Nat.gcd t.natAbs d ≤ d := Nat.le_of_dvd (by omega) (Nat.gcd_dvd_right _ _)
  have g1 : (0 : Int) < ((Nat.gcd t.natAbs d : Nat) : Int) := by omega
  have f1 := fdivD_int (i := t) g1
  have f2 := fdivD_int (i := ((d : Nat) : Int)) g1
  have e2 : ((d : Nat) : Int) / ((Nat.gcd t.natAbs d : Nat) : Int) = ((d / Nat.gcd t.natAbs d : Nat) : Int) := (Int.natCast_ediv _ _).symm
  rw [e2] at f2
  show _ = Out.ok (D.tup [.int (mkRat t d).num, .int (((mkRat t d).den : Nat) : Int)], _)
  rw [mkRat_num' t hd, mkRat_den' t hd]
  simp (disch := first | assumption | decide | omega) only [m__law_low, b__law_low, runF, m0, sSeq, sSet, sIf, sRet, sRetN, sExpr, sSkip_ok, sSetA, sSetIx, sFor, sPar, sBind, sAug, eVar, eCon_ok, eOp2, eOp1, eCall, eCallM, eCallT, eTup, eLst, eArg, eIf, tVal, tNotF, tAndF, tOrF, eB, eAndF, eOrF, eNotF, eIxA, eIxO, eCatO, ixA_lst, ixA_tup, ixA_scr, eDNew, eDGet, eDGetO, eDPop, eSortK, eMM, aHoleQ, aHole, aNil_ok, aCons, oNone_ok, oSome, eSlice, eSliceL, iSeqA, iSeq, iRange, iArg, ePeek, tPeek, eOwnM, tYes_ok, bind_ok, bind_exc, bind_stuck, of_some, flatD, SW.gName, List.getD_cons_zero, List.getD_cons_succ, List.set_cons_zero, List.set_cons_succ, List.map_cons, List.map_nil, List.length_cons, List.length_nil, List.cons_append, List.nil_append, List.replicate, Nat.reduceAdd, Nat.reduceSub, addD_int, subD_int, negD_int, repD_int, modD_int, fdivD_int, ltA_int, leA_int, gtA_int, geA_int, eqD_int, neD_int, pow_10_18, pow_10_60, absD_int, sWhile, ef]
  rw [e]
  simp (disch := first | assumption | decide | omega) only [runF, m0, sSeq, sSet, sIf, sRet, sRetN, sExpr, sSkip_ok, sSetA, sSetIx, sFor, sPar, sBind, sAug, eVar, eCon_ok, eOp2, eOp1, eCall, eCallM, eCallT, eTup, eLst, eArg, eIf, tVal, tNotF, tAndF, tOrF, eB, eAndF, eOrF, eNotF, eIxA, eIxO, eCatO, ixA_lst, ixA_tup, ixA_scr, eDNew, eDGet, eDGetO, eDPop, eSortK, eMM, aHoleQ, aHole, aNil_ok, aCons, oNone_ok, oSome, eSlice, eSliceL, iSeqA, iSeq, iRange, iArg, ePeek, tPeek, eOwnM, tYes_ok, bind_ok, bind_exc, bind_stuck, of_some, flatD, SW.gName, List.getD_cons_zero, List.getD_cons_succ, List.set_cons_zero, List.set_cons_succ, List.map_cons, List.map_nil, List.length_cons, List.length_nil, List.cons_append, List.nil_append, List.replicate, Nat.reduceAdd, Nat.reduceSub, addD_int, subD_int, negD_int, repD_int, modD_int, fdivD_int, ltA_int, leA_int, gtA_int, geA_int, eqD_int, neD_int, pow_10_18, pow_10_60, f1, f2]
theorem law_plus_ok {i j : Nat} {a b : Rat} (h1 : Sz i a) (h2 : Sz j b) (h : i + j ≤ 100000000) : m__law_plus [eRat.en a, eRat.en b] = .ok (eRat.en (a + b), .non) := by
  have e := law_low_ok (a.num * ((b.den : Nat) : Int) + b.num * ((a.den : Nat) : Int)) (dd_ne a b)
  rw [← Rat.add_def', Int.natCast_mul] at e
  have b1 := bits_nd h1 h2 h
  have b2 := bits_nd h2 h1 (by omega)
  have b3 := bits_dd h1 h2 h
  simp (disch := first | assumption | decide | omega) only [m__law_plus, b__law_plus, runF, m0, sSeq, sSet, sIf, sRet, sRetN, sExpr, sSkip_ok, sSetA, sSetIx, sFor, sPar, sBind, sAug, eVar, eCon_ok, eOp2, eOp1, eCall, eCallM, eCallT, eTup, eLst, eArg, eIf, tVal, tNotF, tAndF, tOrF, eB, eAndF, eOrF, eNotF, eIxA, eIxO, eCatO, ixA_lst, ixA_tup, ixA_scr, eDNew, eDGet, eDGetO, eDPop, eSortK, eMM, aHoleQ, aHole, aNil_ok, aCons, oNone_ok, oSome, eSlice, eSliceL, iSeqA, iSeq, iRange, iArg, ePeek, tPeek, eOwnM, tYes_ok, bind_ok, bind_exc, bind_stuck, of_some, flatD, SW.gName, List.getD_cons_zero, List.getD_cons_succ, List.set_cons_zero, List.set_cons_succ, List.map_cons, List.map_nil, List.length_cons, List.length_nil, List.cons_append, List.nil_append, List.replicate, Nat.reduceAdd, Nat.reduceSub, addD_int, subD_int, negD_int, repD_int, modD_int, fdivD_int, ltA_int, leA_int, gtA_int, geA_int, eqD_int, neD_int, pow_10_18, pow_10_60, r0, r1, e]
theorem law_by_ok {i j : Nat} {a b : Rat} (h1 : Sz i a) (h2 : Sz j b) (h : i + j ≤ 100000000) : m__law_by [eRat.en a, eRat.en b] = .ok (eRat.en (a * b), .non) := by
  have e := law_low_ok (a.num * b.num) (dd_ne a b)
  rw [← Rat.mul_def', Int.natCast_mul] at e
  have b1 := bits_nn h1 h2 h
  have b3 := bits_dd h1 h2 h
  simp (disch := first | assumption | decide | omega) only [m__law_by, b__law_by, runF, m0, sSeq, sSet, sIf, sRet, sRetN, sExpr, sSkip_ok, sSetA, sSetIx, sFor, sPar, sBind, sAug, eVar, eCon_ok, eOp2, eOp1, eCall, eCallM, eCallT, eTup, eLst, eArg, eIf, tVal, tNotF, tAndF, tOrF, eB, eAndF, eOrF, eNotF, eIxA, eIxO, eCatO, ixA_lst, ixA_tup, ixA_scr, eDNew, eDGet, eDGetO, eDPop, eSortK, eMM, aHoleQ, aHole, aNil_ok, aCons, oNone_ok, oSome, eSlice, eSliceL, iSeqA, iSeq, iRange, iArg, ePeek, tPeek, eOwnM, tYes_ok, bind_ok, bind_exc, bind_stuck, of_some, flatD, SW.gName, List.getD_cons_zero, List.getD_cons_succ, List.set_cons_zero, List.set_cons_succ, List.map_cons, List.map_nil, List.length_cons, List.length_nil, List.cons_append, List.nil_append, List.replicate, Nat.reduceAdd, Nat.reduceSub, addD_int, subD_int, negD_int, repD_int, modD_int, fdivD_int, ltA_int, leA_int, gtA_int, geA_int, eqD_int, neD_int, pow_10_18, pow_10_60, r0, r1, e]

theorem isi_rat (r : Rat) : isiD [eRat.en r, .ty .tuple] = some (.bl true) := rfl
theorem len_rat (r : Rat) : lenA [eRat.en r] = some (.int 2) := rfl
theorem is_number_ok (r : Rat) : m_is_number [eRat.en r] = .ok (.bl true, .non) := by
  have e := divisor_ok r.num ((r.den : Nat) : Int)
  rw [Int.natAbs_natCast, r.reduced] at e
  have c1 : ((1 : Nat) : Int) = 1 := rfl
  have d1 : (1 : Int) ≤ ((r.den : Nat) : Int) := by have := den_pos' r; omega
  have d2 : (2 : Int) = 2 := rfl
  simp (disch := first | assumption | decide | omega) only [m_is_number, b_is_number, runF, m0, sSeq, sSet, sIf, sRet, sRetN, sExpr, sSkip_ok, sSetA, sSetIx, sFor, sPar, sBind, sAug, eVar, eCon_ok, eOp2, eOp1, eCall, eCallM, eCallT, eTup, eLst, eArg, eIf, tVal, tNotF, tAndF, tOrF, eB, eAndF, eOrF, eNotF, eIxA, eIxO, eCatO, ixA_lst, ixA_tup, ixA_scr, eDNew, eDGet, eDGetO, eDPop, eSortK, eMM, aHoleQ, aHole, aNil_ok, aCons, oNone_ok, oSome, eSlice, eSliceL, iSeqA, iSeq, iRange, iArg, ePeek, tPeek, eOwnM, tYes_ok, bind_ok, bind_exc, bind_stuck, of_some, flatD, SW.gName, List.getD_cons_zero, List.getD_cons_succ, List.set_cons_zero, List.set_cons_succ, List.map_cons, List.map_nil, List.length_cons, List.length_nil, List.cons_append, List.nil_append, List.replicate, Nat.reduceAdd, Nat.reduceSub, addD_int, subD_int, negD_int, repD_int, modD_int, fdivD_int, ltA_int, leA_int, gtA_int, geA_int, eqD_int, neD_int, pow_10_18, pow_10_60, isi_rat, len_rat, decide_eq_true d2, decide_true, Bool.not_true, Bool.false_eq_true, if_false, r0, r1, is_whole_ok, decide_eq_true d1, e, decide_eq_true c1]
theorem eqD_rat (a b : Rat) : eqD (eRat.en a) (eRat.en b) = some (.bl (decide (a = b))) := eqD_enc eRat (by decide) a b
theorem neD_rat (a b : Rat) : neD (eRat.en a) (eRat.en b) = some (.bl (!decide (a = b))) := neD_enc eRat (by decide) a b


/-! sums of words: terms, order, bounds -/
abbrev eTerm : Enc (Wd × Rat) := ePair eWord eRat
abbrev eSum : Enc (List (Wd × Rat)) := eLstOf eTerm
theorem sum_en (l : SumT) : eSum.en l = .lst (l.map eTerm.en) := rfl
theorem isi_w (w : Wd) : isiD [eWord.en w, .ty .tuple] = some (.bl true) := rfl
theorem len_w (w : Wd) : lenA [eWord.en w] = some (.int w.length) := by
  show some (D.int ((w.map D.int).length : Nat)) = _
  rw [List.length_map]
theorem items_w (w : Wd) : itemsA (eWord.en w) = some (w.map D.int) := rfl
theorem items_l (l : List D) : itemsA (.lst l) = some l := rfl
theorem isi_t (p : Wd × Rat) : isiD [eTerm.en p, .ty .tuple] = some (.bl true) := rfl
theorem len_t (p : Wd × Rat) : lenA [eTerm.en p] = some (.int 2) := rfl
theorem t0 (p : Wd × Rat) : ixA (eTerm.en p) (.int 0) = some (eWord.en p.1) := rfl
theorem t1 (p : Wd × Rat) : ixA (eTerm.en p) (.int 1) = some (eRat.en p.2) := rfl
theorem num_ne {q : Rat} (h : q ≠ 0) : ¬ q.num = 0 := fun z => h (Rat.num_eq_zero.mp z)
def WdOk (c : Nat) (w : Wd) : Prop := w.length ≤ 5 ∧ ∀ x ∈ w, 0 ≤ x ∧ x < (c : Int)
def rkE (w : Wd) : D := .tup [.int (w.length : Nat), eWord.en w]
theorem rank_ok (w : Wd) : m_rank [eWord.en w] = .ok (rkE w, .non) := by
  simp (disch := first | assumption | decide | omega) only [m_rank, b_rank, runF, m0, sSeq, sSet, sIf, sRet, sRetN, sExpr, sSkip_ok, sSetA, sSetIx, sFor, sPar, sBind, sAug, eVar, eCon_ok, eOp2, eOp1, eCall, eCallM, eCallT, eTup, eLst, eArg, eIf, tVal, tNotF, tAndF, tOrF, eB, eAndF, eOrF, eNotF, eIxA, eIxO, eCatO, ixA_lst, ixA_tup, ixA_scr, eDNew, eDGet, eDGetO, eDPop, eSortK, eMM, aHoleQ, aHole, aNil_ok, aCons, oNone_ok, oSome, eSlice, eSliceL, iSeqA, iSeq, iRange, iArg, ePeek, tPeek, eOwnM, tYes_ok, bind_ok, bind_exc, bind_stuck, of_some, flatD, SW.gName, List.getD_cons_zero, List.getD_cons_succ, List.set_cons_zero, List.set_cons_succ, List.map_cons, List.map_nil, List.length_cons, List.length_nil, List.cons_append, List.nil_append, List.replicate, Nat.reduceAdd, Nat.reduceSub, addD_int, subD_int, negD_int, repD_int, modD_int, fdivD_int, ltA_int, leA_int, gtA_int, geA_int, eqD_int, neD_int, pow_10_18, pow_10_60, len_w, rkE]
theorem rkE_py (w : Wd) : (rkE w).py = some (rkKey w) := by
  show (D.pyL [.int (w.length : Nat), eWord.en w]).map PyData.tuple = _
  have : D.pyL [.int (w.length : Nat), eWord.en w] = some [.int (w.length : Nat), eWord.py w] := by
    show (match D.py (.int (w.length : Nat)), D.pyL [eWord.en w] with
      | some p, some ps => some (p :: ps)
      | _, _ => none) = _
    have e2 : D.pyL [eWord.en w] = some [eWord.py w] := pyL_map eWord [w]
    rw [e2]
    rfl
  rw [this]
  rfl
theorem rk_alike (a b : Wd) : PySem.W.alike (rkKey a) (rkKey b) = true := by
  show PySem.W.alike (.tuple [.int (a.length : Nat), .tuple (a.map PyData.int)]) (.tuple [.int (b.length : Nat), .tuple (b.map PyData.int)]) = true
  simp only [PySem.W.alike, PySem.W.alikeAll, alike_ints, Bool.and_true]
theorem rk_depth (a : Wd) : (rkKey a).depth ≤ 2 := by
  show (PyData.tuple [.int (a.length : Nat), eWord.py a]).depth ≤ 2
  simp only [PyData.depth, PyData.depthAll]
  have : (eWord.py a).depth ≤ 1 := eWord.hdp a
  omega
theorem ge_rk (a b : Wd) : geA (rkE a) (rkE b) = some (.bl (!rkLt a b)) := by
  show geD (rkE a) (rkE b) = _
  unfold geD cmpP
  rw [rkE_py, rkE_py]
  dsimp only
  have : alOk (rkKey a) (rkKey b) = true := by
    unfold alOk
    rw [rk_alike, decide_eq_true (Nat.le_trans (rk_depth a) (by decide))]
    rfl
  rw [this, if_pos rfl, rkKey_lt]
/-! bounds of fractions: the bottom's multiple, the greatest -/
structure Bd (N M : Nat) (r : Rat) : Prop where
  d : r.den ∣ N
  n : r.num.natAbs ≤ M * r.den
theorem bd_zero (N M : Nat) : Bd N M 0 := ⟨⟨N, by simp⟩, by simp⟩
theorem Bd.mono {N M M' : Nat} {r : Rat} (h : Bd N M r) (hm : M ≤ M') : Bd N M' r := ⟨h.d, Nat.le_trans h.n (Nat.mul_le_mul_right _ hm)⟩
theorem bd_of {N M : Nat} {r : Rat} {t : Int} {d : Nat} (hd : d ≠ 0) (e : r = mkRat t d) (h1 : d ∣ N) (h2 : t.natAbs ≤ M * d) : Bd N M r := by
  subst e
  have g0 : 0 < Nat.gcd t.natAbs d := Nat.gcd_pos_of_pos_right _ (by omega)
  refine ⟨?_, ?_⟩
  · rw [mkRat_den' t hd]
    exact Nat.dvd_trans (Nat.div_dvd_of_dvd (Nat.gcd_dvd_right _ _)) h1
  · rw [mkRat_num' t hd, mkRat_den' t hd]
    obtain ⟨a, ha⟩ := Nat.gcd_dvd_left t.natAbs d
    obtain ⟨b, hb⟩ := Nat.gcd_dvd_right t.natAbs d
    have e1 : d / Nat.gcd t.natAbs d = b := Nat.div_eq_of_eq_mul_right g0 hb
    have e2 : (t / ((Nat.gcd t.natAbs d : Nat) : Int)).natAbs = a := by
      rw [Int.natAbs_ediv_of_dvd (Int.ofNat_dvd_left.mpr (Nat.gcd_dvd_left _ _)), Int.natAbs_natCast]
      exact Nat.div_eq_of_eq_mul_right g0 ha
    rw [e1, e2]
    rw [ha] at h2
    have h3 : Nat.gcd t.natAbs d * a ≤ M * (Nat.gcd t.natAbs d * b) := by rw [← hb]; exact h2
    have h4 : Nat.gcd t.natAbs d * a ≤ Nat.gcd t.natAbs d * (M * b) := by rw [Nat.mul_left_comm] at h3; exact h3
    exact Nat.le_of_mul_le_mul_left h4 g0
theorem Bd.mul {N M N' M' : Nat} {a b : Rat} (h1 : Bd N M a) (h2 : Bd N' M' b) : Bd (N * N') (M * M') (a * b) := by
  refine bd_of (dd_ne a b) (Rat.mul_def' a b) (Nat.mul_dvd_mul h1.d h2.d) ?_
  rw [Int.natAbs_mul]
  have := Nat.mul_le_mul h1.n h2.n
  calc a.num.natAbs * b.num.natAbs ≤ (M * a.den) * (M' * b.den) := this
    _ = M * M' * (a.den * b.den) := by rw [Nat.mul_mul_mul_comm]
theorem Bd.add {N M M' : Nat} {a b : Rat} (hN : N ≠ 0) (h1 : Bd N M a) (h2 : Bd N M' b) : Bd N (M + M') (a + b) := by
  obtain ⟨x, hx⟩ := h1.d
  obtain ⟨y, hy⟩ := h2.d
  have ha := den_pos' a
  have hb := den_pos' b
  have e : a + b = mkRat (a.num * x + b.num * y) N := by
    have ea : a = mkRat (a.num * x) N := by
      conv => lhs; rw [← Rat.mkRat_self a]
      rw [hx, Rat.mkRat_eq_iff (by omega) (by rw [← hx]; exact hN)]
      rw [Int.natCast_mul, ← Int.mul_assoc, Int.mul_right_comm]
    have eb : b = mkRat (b.num * y) N := by
      conv => lhs; rw [← Rat.mkRat_self b]
      rw [hy, Rat.mkRat_eq_iff (by omega) (by rw [← hy]; exact hN)]
      rw [Int.natCast_mul, ← Int.mul_assoc, Int.mul_right_comm]
    conv => lhs; rw [ea, eb]
    rw [Rat.mkRat_add_mkRat _ _ hN hN, ← Int.add_mul, Rat.mkRat_mul_right hN]
  refine bd_of hN e (Nat.dvd_refl _) ?_
  refine Nat.le_trans (Int.natAbs_add_le _ _) ?_
  rw [Int.natAbs_mul, Int.natAbs_mul, Int.natAbs_natCast, Int.natAbs_natCast, Nat.add_mul]
  have q1 := Nat.mul_le_mul_right x h1.n
  have q2 := Nat.mul_le_mul_right y h2.n
  rw [Nat.mul_assoc, ← hx] at q1
  rw [Nat.mul_assoc, ← hy] at q2
  omega
theorem Bd.neg {N M : Nat} {a : Rat} (h : Bd N M a) : Bd N M (-a) := ⟨by rw [Rat.neg_den]; exact h.d, by rw [Rat.neg_num, Int.natAbs_neg, Rat.neg_den]; exact h.n⟩
theorem Bd.lift {N N' M : Nat} {a : Rat} (h : Bd N M a) (hd : N ∣ N') : Bd N' M a := ⟨Nat.dvd_trans h.d hd, h.n⟩
theorem Bd.sz {N M k : Nat} {r : Rat} (h : Bd N M r) (hN : N ≠ 0) (h1 : N < 2 ^ k) (h2 : M * N < 2 ^ k) : Sz k r := by
  have hd := Nat.le_of_dvd (by omega) h.d
  exact ⟨Nat.lt_of_le_of_lt (Nat.le_trans h.n (Nat.mul_le_mul_left _ hd)) h2, Nat.lt_of_le_of_lt hd h1⟩

/-! sums that are handed in are looked at -/
theorem is_word_ok {c : Nat} {w : Wd} (h : WdOk c w) : m_is_word [eWord.en w, .int c] = .ok (.bl true, .non) := by
  obtain ⟨ρ', e, y, rfl⟩ := forL_fold (b := gName 2) (g := (sIf (tOrF (tNotF (tVal (eCall m_is_whole (aCons (eVar 2) aNil)))) (tOrF (tVal (eOp2 ltA (eVar 2) (eCon (.int 0)))) (tVal (eOp2 geA (eVar 2) (eVar 1))))) (sRet (eCon (.bl false))) sSkip)) (f := D.int) (σ := Unit) (step := fun s _ => s) (St := fun _ ρ => ∃ y, ρ = [some (eWord.en w), some (.int c), y]) w () [some (eWord.en w), some (.int c), none] ⟨_, rfl⟩ (by
    rintro x hx _ ρ ⟨y, rfl⟩
    refine ⟨_, [some (eWord.en w), some (.int c), some (.int x)], rfl, ?_, _, rfl⟩
    obtain ⟨h0, h1⟩ := h.2 x hx
    have d0 : ¬ x < 0 := by omega
    have d1 : ¬ ((c : Nat) : Int) ≤ x := by omega
    simp (disch := first | assumption | decide | omega) only [runF, m0, sSeq, sSet, sIf, sRet, sRetN, sExpr, sSkip_ok, sSetA, sSetIx, sFor, sPar, sBind, sAug, eVar, eCon_ok, eOp2, eOp1, eCall, eCallM, eCallT, eTup, eLst, eArg, eIf, tVal, tNotF, tAndF, tOrF, eB, eAndF, eOrF, eNotF, eIxA, eIxO, eCatO, ixA_lst, ixA_tup, ixA_scr, eDNew, eDGet, eDGetO, eDPop, eSortK, eMM, aHoleQ, aHole, aNil_ok, aCons, oNone_ok, oSome, eSlice, eSliceL, iSeqA, iSeq, iRange, iArg, ePeek, tPeek, eOwnM, tYes_ok, bind_ok, bind_exc, bind_stuck, of_some, flatD, SW.gName, List.getD_cons_zero, List.getD_cons_succ, List.set_cons_zero, List.set_cons_succ, List.map_cons, List.map_nil, List.length_cons, List.length_nil, List.cons_append, List.nil_append, List.replicate, Nat.reduceAdd, Nat.reduceSub, addD_int, subD_int, negD_int, repD_int, modD_int, fdivD_int, ltA_int, leA_int, gtA_int, geA_int, eqD_int, neD_int, pow_10_18, pow_10_60, is_whole_ok, decide_eq_false d0, decide_eq_false d1, Bool.not_true, Bool.false_eq_true, if_false])
  have d2 : ¬ (5 : Int) < ((w.length : Nat) : Int) := by have := h.1; omega
  simp (disch := first | assumption | decide | omega) only [m_is_word, b_is_word, runF, m0, sSeq, sSet, sIf, sRet, sRetN, sExpr, sSkip_ok, sSetA, sSetIx, sFor, sPar, sBind, sAug, eVar, eCon_ok, eOp2, eOp1, eCall, eCallM, eCallT, eTup, eLst, eArg, eIf, tVal, tNotF, tAndF, tOrF, eB, eAndF, eOrF, eNotF, eIxA, eIxO, eCatO, ixA_lst, ixA_tup, ixA_scr, eDNew, eDGet, eDGetO, eDPop, eSortK, eMM, aHoleQ, aHole, aNil_ok, aCons, oNone_ok, oSome, eSlice, eSliceL, iSeqA, iSeq, iRange, iArg, ePeek, tPeek, eOwnM, tYes_ok, bind_ok, bind_exc, bind_stuck, of_some, flatD, SW.gName, List.getD_cons_zero, List.getD_cons_succ, List.set_cons_zero, List.set_cons_succ, List.map_cons, List.map_nil, List.length_cons, List.length_nil, List.cons_append, List.nil_append, List.replicate, Nat.reduceAdd, Nat.reduceSub, addD_int, subD_int, negD_int, repD_int, modD_int, fdivD_int, ltA_int, leA_int, gtA_int, geA_int, eqD_int, neD_int, pow_10_18, pow_10_60, k_MOST, isi_w, len_w, decide_eq_false d2, Bool.not_true, Bool.false_eq_true, if_false, items_w, e]
theorem is_term_ok {c : Nat} {p : Wd × Rat} (h : WdOk c p.1) (hq : p.2 ≠ 0) : m_is_term [eTerm.en p, .int c] = .ok (.bl true, .non) := by
  have e1 := is_word_ok h
  have e2 := is_number_ok p.2
  have d0 := num_ne hq
  simp (disch := first | assumption | decide | omega) only [m_is_term, b_is_term, runF, m0, sSeq, sSet, sIf, sRet, sRetN, sExpr, sSkip_ok, sSetA, sSetIx, sFor, sPar, sBind, sAug, eVar, eCon_ok, eOp2, eOp1, eCall, eCallM, eCallT, eTup, eLst, eArg, eIf, tVal, tNotF, tAndF, tOrF, eB, eAndF, eOrF, eNotF, eIxA, eIxO, eCatO, ixA_lst, ixA_tup, ixA_scr, eDNew, eDGet, eDGetO, eDPop, eSortK, eMM, aHoleQ, aHole, aNil_ok, aCons, oNone_ok, oSome, eSlice, eSliceL, iSeqA, iSeq, iRange, iArg, ePeek, tPeek, eOwnM, tYes_ok, bind_ok, bind_exc, bind_stuck, of_some, flatD, SW.gName, List.getD_cons_zero, List.getD_cons_succ, List.set_cons_zero, List.set_cons_succ, List.map_cons, List.map_nil, List.length_cons, List.length_nil, List.cons_append, List.nil_append, List.replicate, Nat.reduceAdd, Nat.reduceSub, addD_int, subD_int, negD_int, repD_int, modD_int, fdivD_int, ltA_int, leA_int, gtA_int, geA_int, eqD_int, neD_int, pow_10_18, pow_10_60, isi_t, len_t, t0, t1, r0, decide_true, decide_eq_false d0, Bool.not_true, Bool.not_false, Bool.false_eq_true, if_false, e1, e2]
/-- what a sum handed in keeps -/
structure SumOk (c : Nat) (l : SumT) : Prop where
  sm : Sm l
  wd : ∀ p ∈ l, WdOk c p.1
theorem enumD_map {α : Type} (f : α → D) (z : α) (l : List α) : enumD (l.map f) = (List.range l.length).map fun i => .tup [.int (i : Nat), f (l.getD i z)] := by
  unfold enumD
  rw [List.length_map]
  refine List.ext_getElem? fun i => ?_
  rw [List.getElem?_zipWith, List.getElem?_map, List.getElem?_map]
  by_cases h : i < l.length
  · rw [List.getElem?_range h, List.getElem?_eq_getElem h]
    show some (D.tup [.int (i : Nat), f l[i]]) = some (D.tup [.int (i : Nat), f (l.getD i z)])
    rw [List.getD_eq_getElem?_getD, List.getElem?_eq_getElem h]
    rfl
  · rw [List.getElem?_eq_none (by rw [List.length_range]; omega)]
    rfl
theorem ix_map {α : Type} (f : α → D) (l : List α) (z : α) {i : Nat} (h : i < l.length) : ixD (.lst (l.map f)) (.int ((i : Nat) : Int)) = some (f (l.getD i z)) := by
  show atI (l.map f) ((i : Nat) : Int) = _
  unfold atI ixN
  rw [List.length_map, if_pos (by omega), if_pos (by omega)]
  show (l.map f)[((i : Nat) : Int).toNat]? = _
  rw [Int.toNat_natCast, List.getElem?_map, List.getD_eq_getElem?_getD, List.getElem?_eq_getElem h]
  rfl
theorem rising_at {l : SumT} (h : Rising (l.map (·.1))) {i : Nat} (hi : i + 1 < l.length) (z : Wd × Rat) : rkLt (l.getD i z).1 (l.getD (i + 1) z).1 = true := by
  have q := (List.pairwise_iff_getElem.mp h) i (i + 1) (by rw [List.length_map]; omega) (by rw [List.length_map]; omega) (by omega)
  rw [List.getElem_map, List.getElem_map] at q
  rw [List.getD_eq_getElem?_getD, List.getD_eq_getElem?_getD, List.getElem?_eq_getElem (by omega : i < l.length), List.getElem?_eq_getElem hi]
  exact q
theorem check_sum_ok {c : Nat} {l : SumT} (h : SumOk c l) : m_check_sum [.int c, .lst (l.map eTerm.en)] = .ok (.non, .non) := by
  obtain ⟨ρ', e, y, z, rfl⟩ := forL_fold (b := (gTup 2 (gCons (gName 2) (gCons (gName 3) gNil)))) (g := (sSeq (sIf (tNotF (tVal (eCall m_is_term (aCons (eVar 3) (aCons (eVar 0) aNil))))) sStuck sSkip) (sIf (tAndF (tVal (eOp2 gtA (eVar 2) (eCon (.int 0)))) (tVal (eOp2 geA (eCall m_rank (aCons (eOp2 ixA (eOp2 ixA (eVar 1) (eOp2 subD (eVar 2) (eCon (.int 1)))) (eCon (.int 0))) aNil)) (eCall m_rank (aCons (eOp2 ixA (eVar 3) (eCon (.int 0))) aNil))))) sStuck sSkip)))
    (f := fun i : Nat => D.tup [.int (i : Nat), eTerm.en (l.getD i ([], 0))]) (σ := Unit) (step := fun s _ => s) (St := fun _ ρ => ∃ y z, ρ = [some (.int c), some (.lst (l.map eTerm.en)), y, z]) (List.range l.length) () [some (.int c), some (.lst (l.map eTerm.en)), none, none] ⟨_, _, rfl⟩ (by
    rintro i hi _ ρ ⟨y, z, rfl⟩
    have hi := List.mem_range.mp hi
    have hm : l.getD i ([], 0) ∈ l := by
      rw [List.getD_eq_getElem?_getD, List.getElem?_eq_getElem hi]
      exact List.getElem_mem hi
    have e1 := is_term_ok (h.wd _ hm) (h.sm.nz _ hm)
    refine ⟨_, [some (.int c), some (.lst (l.map eTerm.en)), some (.int (i : Nat)), some (eTerm.en (l.getD i ([], 0)))], rfl, ?_, _, _, rfl⟩
    cases i with
    | zero =>
      have d0 : ¬ (0 : Int) < ((0 : Nat) : Int) := by decide
      simp (disch := first | assumption | decide | omega) only [runF, m0, sSeq, sSet, sIf, sRet, sRetN, sExpr, sSkip_ok, sSetA, sSetIx, sFor, sPar, sBind, sAug, eVar, eCon_ok, eOp2, eOp1, eCall, eCallM, eCallT, eTup, eLst, eArg, eIf, tVal, tNotF, tAndF, tOrF, eB, eAndF, eOrF, eNotF, eIxA, eIxO, eCatO, ixA_lst, ixA_tup, ixA_scr, eDNew, eDGet, eDGetO, eDPop, eSortK, eMM, aHoleQ, aHole, aNil_ok, aCons, oNone_ok, oSome, eSlice, eSliceL, iSeqA, iSeq, iRange, iArg, ePeek, tPeek, eOwnM, tYes_ok, bind_ok, bind_exc, bind_stuck, of_some, flatD, SW.gName, List.getD_cons_zero, List.getD_cons_succ, List.set_cons_zero, List.set_cons_succ, List.map_cons, List.map_nil, List.length_cons, List.length_nil, List.cons_append, List.nil_append, List.replicate, Nat.reduceAdd, Nat.reduceSub, addD_int, subD_int, negD_int, repD_int, modD_int, fdivD_int, ltA_int, leA_int, gtA_int, geA_int, eqD_int, neD_int, pow_10_18, pow_10_60, e1, decide_eq_false d0, Bool.not_true, Bool.false_eq_true, if_false]
    | succ i =>
      have d0 : (0 : Int) < ((i + 1 : Nat) : Int) := by omega
      have ei : ((i + 1 : Nat) : Int) - 1 = ((i : Nat) : Int) := by omega
      have x1 := ix_map eTerm.en l ([], 0) (i := i) (by omega)
      have g1 := ge_rk (l.getD i ([], 0)).1 (l.getD (i + 1) ([], 0)).1
      rw [rising_at h.sm.up hi] at g1
      simp (disch := first | assumption | decide | omega) only [runF, m0, sSeq, sSet, sIf, sRet, sRetN, sExpr, sSkip_ok, sSetA, sSetIx, sFor, sPar, sBind, sAug, eVar, eCon_ok, eOp2, eOp1, eCall, eCallM, eCallT, eTup, eLst, eArg, eIf, tVal, tNotF, tAndF, tOrF, eB, eAndF, eOrF, eNotF, eIxA, eIxO, eCatO, ixA_lst, ixA_tup, ixA_scr, eDNew, eDGet, eDGetO, eDPop, eSortK, eMM, aHoleQ, aHole, aNil_ok, aCons, oNone_ok, oSome, eSlice, eSliceL, iSeqA, iSeq, iRange, iArg, ePeek, tPeek, eOwnM, tYes_ok, bind_ok, bind_exc, bind_stuck, of_some, flatD, SW.gName, List.getD_cons_zero, List.getD_cons_succ, List.set_cons_zero, List.set_cons_succ, List.map_cons, List.map_nil, List.length_cons, List.length_nil, List.cons_append, List.nil_append, List.replicate, Nat.reduceAdd, Nat.reduceSub, addD_int, subD_int, negD_int, repD_int, modD_int, fdivD_int, ltA_int, leA_int, gtA_int, geA_int, eqD_int, neD_int, pow_10_18, pow_10_60, e1, decide_eq_true d0, ei, x1, t0, rank_ok, g1, Bool.not_true, Bool.false_eq_true, if_false, if_true])
  have en := enumD_map eTerm.en ([], 0) l
  have ei : iEnum1 [.lst (l.map eTerm.en)] = some ((List.range l.length).map fun i => .tup [.int (i : Nat), eTerm.en (l.getD i ([], 0))]) := by
    show some (enumD (l.map eTerm.en)) = _
    rw [en]
  simp (disch := first | assumption | decide | omega) only [m_check_sum, b_check_sum, runF, m0, sSeq, sSet, sIf, sRet, sRetN, sExpr, sSkip_ok, sSetA, sSetIx, sFor, sPar, sBind, sAug, eVar, eCon_ok, eOp2, eOp1, eCall, eCallM, eCallT, eTup, eLst, eArg, eIf, tVal, tNotF, tAndF, tOrF, eB, eAndF, eOrF, eNotF, eIxA, eIxO, eCatO, ixA_lst, ixA_tup, ixA_scr, eDNew, eDGet, eDGetO, eDPop, eSortK, eMM, aHoleQ, aHole, aNil_ok, aCons, oNone_ok, oSome, eSlice, eSliceL, iSeqA, iSeq, iRange, iArg, ePeek, tPeek, eOwnM, tYes_ok, bind_ok, bind_exc, bind_stuck, of_some, flatD, SW.gName, List.getD_cons_zero, List.getD_cons_succ, List.set_cons_zero, List.set_cons_succ, List.map_cons, List.map_nil, List.length_cons, List.length_nil, List.cons_append, List.nil_append, List.replicate, Nat.reduceAdd, Nat.reduceSub, addD_int, subD_int, negD_int, repD_int, modD_int, fdivD_int, ltA_int, leA_int, gtA_int, geA_int, eqD_int, neD_int, pow_10_18, pow_10_60, ei, e]


/-! dicts of sums, sorted words, the told sum -/
abbrev dS (l : SumT) : D := .dct (dE eRat.en l)
theorem ixA_E {l : SumT} {w : Wd} {q : Rat} (h : getT l w = some q) : ixA (dS l) (eWord.en w) = some (eRat.en q) := by
  show (keyT (eWord.en w)).bind (valD _) = _
  rw [keyT_word]
  show valD (dE eRat.en l) (wk w) = _
  rw [valD_E, h]
  rfl
theorem inA_E (l : SumT) (w : Wd) : inA (eWord.en w) (dS l) = some (.bl (getT l w).isSome) := by
  unfold inA inDct
  dsimp only
  rw [keyT_word]
  show some (D.bl (valD (dE eRat.en l) (wk w)).isSome) = _
  rw [valD_E, Option.isSome_map]
theorem items_E (l : SumT) : itemsA (dS l) = some ((l.map (·.1)).map eWord.en) := by
  show some ((dE eRat.en l).map fun p => keyB p.1) = _
  rw [keys_E]
theorem get_E (l : SumT) (w : Wd) : ((getT l w).map eRat.en).getD (eRat.en 0) = eRat.en (coef l w) := by
  unfold coef
  cases getT l w <;> rfl
theorem del_none {l : SumT} {w : Wd} (h : getT l w = none) : delT l w = l := by
  refine List.filter_eq_self.mpr fun p hp => ?_
  have := getT_none.mp h
  refine decide_eq_true fun e => this ?_
  rw [← e]
  exact List.mem_map.mpr ⟨p, hp, rfl⟩
theorem len_small {n : Nat} (h : n ≤ 200000) : n < sizeLine := by rw [sizeLine_is]; omega
theorem nought_ok : k_NOUGHT = eRat.en 0 := rfl
theorem rk_sortable (ws : List Wd) : keysOk (ws.map rkKey) = true := by
  unfold keysOk
  rw [Bool.and_eq_true, Bool.and_eq_true]
  refine ⟨⟨List.all_eq_true.mpr fun p hp => List.all_eq_true.mpr fun q hq => ?_, Bool.or_eq_true_iff.mpr (.inl (List.all_eq_true.mpr fun p hp => ?_))⟩, List.all_eq_true.mpr fun p hp => ?_⟩
  · obtain ⟨a, _, rfl⟩ := List.mem_map.mp hp
    obtain ⟨b, _, rfl⟩ := List.mem_map.mp hq
    exact rk_alike a b
  · obtain ⟨a, _, rfl⟩ := List.mem_map.mp hp
    rfl
  · obtain ⟨a, _, rfl⟩ := List.mem_map.mp hp
    exact decide_eq_true (Nat.le_trans (rk_depth a) (by decide))
theorem keysOf_rk {m : List D → Out (D × D)} (hm : ∀ w, m [eWord.en w] = .ok (rkE w, .non)) : ∀ ws : List Wd, keysOf m (ws.map eWord.en) = some (ws.map fun w => (rkE w, rkKey w))
  | [] => rfl
  | w :: ws => by
    rw [List.map_cons]
    unfold keysOf
    rw [hm]
    dsimp only
    rw [rkE_py, keysOf_rk hm ws]
    rfl
theorem sortK_rk {m : List D → Out (D × D)} (hm : ∀ w, m [eWord.en w] = .ok (rkE w, .non)) (ws : List Wd) : sortK m (ws.map eWord.en) = some ((ws.mergeSort rkLe).map eWord.en) := by
  unfold sortK
  rw [keysOf_rk hm]
  dsimp only
  have e : (ws.map fun w => (rkE w, rkKey w)).map (·.2) = ws.map rkKey := by rw [List.map_map]; rfl
  rw [e, rk_sortable, if_pos rfl]
  congr 1
  refine (List.map_mergeSort (r := rkLe) (s := PySem.W.dataLe false (keyFn m)) (f := eWord.en) (l := ws) fun a _ b _ => ?_).symm
  have kf : ∀ w, keyFn m (eWord.en w) = rkKey w := fun w => by
    unfold keyFn
    rw [hm]
    dsimp only
    rw [rkE_py]
  show rkLe a b = !PySem.W.dataLt (keyFn m (eWord.en b)) (keyFn m (eWord.en a))
  rw [kf, kf, rkKey_lt]
  rfl
theorem told_gen {m : List D → Out (D × D)} (hm : ∀ w, m [eWord.en w] = .ok (rkE w, .non)) {l : SumT} (g : Good l) : runF 2 none (sRet (eComp [1] (iSeqA (eSortK m (eVar 0))) (gName 1) tYesF (eTup (aCons (eVar 1) (aCons (eOp2 ixA (eVar 0) (eVar 1)) aNil))))) [dS l] = .ok (eSum.en (toldT l), .non) := by
  have e := compL_of (vs := [1]) (b := gName 1) (tt := tYesF) (fe := (eTup (aCons (eVar 1) (aCons (eOp2 ixA (eVar 0) (eVar 1)) aNil)))) (f := eWord.en) (ρ := [some (dS l), none]) (c := fun _ => true) (h := fun w => eTerm.en (w, coef l w)) ((l.map (·.1)).mergeSort rkLe) (by
    intro w hw
    have hw := (List.mergeSort_perm _ _).mem_iff.mp hw
    obtain ⟨p, hp, rfl⟩ := List.mem_map.mp hw
    have h1 := getT_of_mem g.nd (q := p.2) hp
    have x1 := ixA_E h1
    have h2 : coef l p.1 = p.2 := by unfold coef; rw [h1]; rfl
    refine ⟨[some (dS l), some (eWord.en p.1)], rfl, [some (dS l), some (eWord.en p.1)], rfl, (fun z => by cases z), fun _ => ⟨[some (dS l), some (eWord.en p.1)], ?_, rfl⟩⟩
    rw [h2]
    simp (disch := first | assumption | decide | omega) only [runF, m0, sSeq, sSet, sIf, sRet, sRetN, sExpr, sSkip_ok, sSetA, sSetIx, sFor, sPar, sBind, sAug, eVar, eCon_ok, eOp2, eOp1, eCall, eCallM, eCallT, eTup, eLst, eArg, eIf, tVal, tNotF, tAndF, tOrF, eB, eAndF, eOrF, eNotF, eIxA, eIxO, eCatO, ixA_lst, ixA_tup, ixA_scr, eDNew, eDGet, eDGetO, eDPop, eSortK, eMM, aHoleQ, aHole, aNil_ok, aCons, oNone_ok, oSome, eSlice, eSliceL, iSeqA, iSeq, iRange, iArg, ePeek, tPeek, eOwnM, tYes_ok, bind_ok, bind_exc, bind_stuck, of_some, flatD, SW.gName, List.getD_cons_zero, List.getD_cons_succ, List.set_cons_zero, List.set_cons_succ, List.map_cons, List.map_nil, List.length_cons, List.length_nil, List.cons_append, List.nil_append, List.replicate, Nat.reduceAdd, Nat.reduceSub, addD_int, subD_int, negD_int, repD_int, modD_int, fdivD_int, ltA_int, leA_int, gtA_int, geA_int, eqD_int, neD_int, pow_10_18, pow_10_60, x1]
    rfl)
  rw [List.filter_eq_self.mpr fun a _ => rfl] at e
  have s := sortK_rk hm (l.map (·.1))
  have en : eSum.en (toldT l) = .lst (((l.map (·.1)).mergeSort rkLe).map fun w => eTerm.en (w, coef l w)) := by
    show D.lst ((toldT l).map eTerm.en) = _
    unfold toldT
    rw [List.map_map]
    rfl
  rw [en]
  simp (disch := first | assumption | decide | omega) only [runF, m0, sSeq, sSet, sIf, sRet, sRetN, sExpr, sSkip_ok, sSetA, sSetIx, sFor, sPar, sBind, sAug, eVar, eCon_ok, eOp2, eOp1, eCall, eCallM, eCallT, eTup, eLst, eArg, eIf, tVal, tNotF, tAndF, tOrF, eB, eAndF, eOrF, eNotF, eIxA, eIxO, eCatO, ixA_lst, ixA_tup, ixA_scr, eDNew, eDGet, eDGetO, eDPop, eSortK, eMM, aHoleQ, aHole, aNil_ok, aCons, oNone_ok, oSome, eSlice, eSliceL, iSeqA, iSeq, iRange, iArg, ePeek, tPeek, eOwnM, tYes_ok, bind_ok, bind_exc, bind_stuck, of_some, flatD, SW.gName, List.getD_cons_zero, List.getD_cons_succ, List.set_cons_zero, List.set_cons_succ, List.map_cons, List.map_nil, List.length_cons, List.length_nil, List.cons_append, List.nil_append, List.replicate, Nat.reduceAdd, Nat.reduceSub, addD_int, subD_int, negD_int, repD_int, modD_int, fdivD_int, ltA_int, leA_int, gtA_int, geA_int, eqD_int, neD_int, pow_10_18, pow_10_60, items_E, Option.bind_some, s, items_l, eComp, e]
theorem told_sum_ok {l : SumT} (g : Good l) : m_told_sum [dS l] = .ok (eSum.en (toldT l), .non) := told_gen rank_ok g
/-- terms added, each within bounds -/
structure Acc (N M k : Nat) (l : SumT) : Prop where
  good : Good l
  bd : ∀ w, Bd N (k * M) (coef l w)
  len : l.length ≤ k
theorem acc_nil (N M : Nat) : Acc N M 0 [] := ⟨good_nil, fun w => bd_zero _ _, Nat.le_refl _⟩
structure Small (N M : Nat) : Prop where
  n0 : N ≠ 0
  n : N < 2 ^ 4000
  m : 100000 * M * N < 2 ^ 4000
theorem Acc.add {N M k : Nat} {l : SumT} {w : Wd} {q : Rat} (hN : N ≠ 0) (h : Acc N M k l) (hq : Bd N M q) : Acc N M (k + 1) (addT l w q) := by
  refine ⟨h.good.add w q, fun v => ?_, Nat.le_trans (add_len _ _ _) (Nat.add_le_add_right h.len 1)⟩
  rw [coef_add h.good]
  have e : (k + 1) * M = k * M + M := by rw [Nat.add_mul, Nat.one_mul]
  rw [e]
  refine Bd.add hN (h.bd v) ?_
  split
  · exact hq
  · exact bd_zero _ _
theorem Acc.sz {N M k : Nat} {l : SumT} (h : Acc N M k l) (s : Small N M) (hk : k ≤ 100000) (w : Wd) : Sz 4000 (coef l w) := (h.bd w).sz s.n0 s.n (Nat.lt_of_le_of_lt (Nat.mul_le_mul_right _ (Nat.mul_le_mul_right _ hk)) s.m)
theorem Small.sz {N M : Nat} (s : Small N M) {q : Rat} (h : Bd N M q) : Sz 4000 q := h.sz s.n0 s.n (Nat.lt_of_le_of_lt (Nat.mul_le_mul_right _ (by omega : M ≤ 100000 * M)) s.m)
theorem put_to_g {i j : Nat} {l : SumT} {w : Wd} {q : Rat} (h1 : Sz i (coef l w)) (h2 : Sz j q) (hij : i + j ≤ 100000000) (hl : l.length ≤ 200000) : m_put_to [dS l, eWord.en w, eRat.en q] = .ok (.non, dS (addT l w q)) := by
  have e1 := plus_ok h1 h2 hij
  have hs : (dE eRat.en l).length < sizeLine := by rw [dE_len]; exact len_small hl
  by_cases z : coef l w + q = 0
  · have d0 : (coef l w + q).num = 0 := by rw [z]; rfl
    have ea : addT l w q = delT l w := by unfold addT; rw [if_pos z]
    rw [ea]
    cases hg : getT l w with
    | none =>
      have i1 := inA_E l w
      rw [hg] at i1
      rw [del_none hg]
      simp (disch := first | assumption | decide | omega) only [m_put_to, b_put_to, runF, m0, sSeq, sSet, sIf, sRet, sRetN, sExpr, sSkip_ok, sSetA, sSetIx, sFor, sPar, sBind, sAug, eVar, eCon_ok, eOp2, eOp1, eCall, eCallM, eCallT, eTup, eLst, eArg, eIf, tVal, tNotF, tAndF, tOrF, eB, eAndF, eOrF, eNotF, eIxA, eIxO, eCatO, ixA_lst, ixA_tup, ixA_scr, eDNew, eDGet, eDGetO, eDPop, eSortK, eMM, aHoleQ, aHole, aNil_ok, aCons, oNone_ok, oSome, eSlice, eSliceL, iSeqA, iSeq, iRange, iArg, ePeek, tPeek, eOwnM, tYes_ok, bind_ok, bind_exc, bind_stuck, of_some, flatD, SW.gName, List.getD_cons_zero, List.getD_cons_succ, List.set_cons_zero, List.set_cons_succ, List.map_cons, List.map_nil, List.length_cons, List.length_nil, List.cons_append, List.nil_append, List.replicate, Nat.reduceAdd, Nat.reduceSub, addD_int, subD_int, negD_int, repD_int, modD_int, fdivD_int, ltA_int, leA_int, gtA_int, geA_int, eqD_int, neD_int, pow_10_18, pow_10_60, Option.getD_some, keyT_word, Option.map_some, valD_E, nought_ok, get_E, e1, r0, decide_eq_true d0, Bool.not_true, Bool.false_eq_true, if_false, i1, Option.isSome_none]
    | some y =>
      have i1 := inA_E l w
      rw [hg] at i1
      have v1 : valD (dE eRat.en l) (wk w) = some (eRat.en y) := by rw [valD_E, hg]; rfl
      have v2 : (some (eRat.en y)).getD (eRat.en 0) = eRat.en (coef l w) := by unfold coef; rw [hg]; rfl
      simp (disch := first | assumption | decide | omega) only [m_put_to, b_put_to, runF, m0, sSeq, sSet, sIf, sRet, sRetN, sExpr, sSkip_ok, sSetA, sSetIx, sFor, sPar, sBind, sAug, eVar, eCon_ok, eOp2, eOp1, eCall, eCallM, eCallT, eTup, eLst, eArg, eIf, tVal, tNotF, tAndF, tOrF, eB, eAndF, eOrF, eNotF, eIxA, eIxO, eCatO, ixA_lst, ixA_tup, ixA_scr, eDNew, eDGet, eDGetO, eDPop, eSortK, eMM, aHoleQ, aHole, aNil_ok, aCons, oNone_ok, oSome, eSlice, eSliceL, iSeqA, iSeq, iRange, iArg, ePeek, tPeek, eOwnM, tYes_ok, bind_ok, bind_exc, bind_stuck, of_some, flatD, SW.gName, List.getD_cons_zero, List.getD_cons_succ, List.set_cons_zero, List.set_cons_succ, List.map_cons, List.map_nil, List.length_cons, List.length_nil, List.cons_append, List.nil_append, List.replicate, Nat.reduceAdd, Nat.reduceSub, addD_int, subD_int, negD_int, repD_int, modD_int, fdivD_int, ltA_int, leA_int, gtA_int, geA_int, eqD_int, neD_int, pow_10_18, pow_10_60, Option.getD_some, keyT_word, Option.map_some, Option.bind_some, v1, v2, nought_ok, e1, r0, decide_eq_true d0, Bool.not_true, Bool.false_eq_true, if_false, if_true, i1, Option.isSome_some, dropD_E]
  · have d0 : ¬ (coef l w + q).num = 0 := num_ne z
    have ea : addT l w q = setT l w (coef l w + q) := by unfold addT; rw [if_neg z]
    rw [ea]
    simp (disch := first | assumption | decide | omega) only [m_put_to, b_put_to, runF, m0, sSeq, sSet, sIf, sRet, sRetN, sExpr, sSkip_ok, sSetA, sSetIx, sFor, sPar, sBind, sAug, eVar, eCon_ok, eOp2, eOp1, eCall, eCallM, eCallT, eTup, eLst, eArg, eIf, tVal, tNotF, tAndF, tOrF, eB, eAndF, eOrF, eNotF, eIxA, eIxO, eCatO, ixA_lst, ixA_tup, ixA_scr, eDNew, eDGet, eDGetO, eDPop, eSortK, eMM, aHoleQ, aHole, aNil_ok, aCons, oNone_ok, oSome, eSlice, eSliceL, iSeqA, iSeq, iRange, iArg, ePeek, tPeek, eOwnM, tYes_ok, bind_ok, bind_exc, bind_stuck, of_some, flatD, SW.gName, List.getD_cons_zero, List.getD_cons_succ, List.set_cons_zero, List.set_cons_succ, List.map_cons, List.map_nil, List.length_cons, List.length_nil, List.cons_append, List.nil_append, List.replicate, Nat.reduceAdd, Nat.reduceSub, addD_int, subD_int, negD_int, repD_int, modD_int, fdivD_int, ltA_int, leA_int, gtA_int, geA_int, eqD_int, neD_int, pow_10_18, pow_10_60, Option.getD_some, keyT_word, Option.map_some, Option.bind_some, valD_E, nought_ok, get_E, e1, r0, decide_eq_false d0, Bool.not_false, if_true, hs, putD_E]
theorem put_to_ok {l : SumT} {w : Wd} {q : Rat} (h1 : Sz 4000 (coef l w)) (h2 : Sz 4000 q) (hl : l.length ≤ 200000) : m_put_to [dS l, eWord.en w, eRat.en q] = .ok (.non, dS (addT l w q)) := put_to_g h1 h2 (by decide) hl
def addAll (ts acc : SumT) : SumT := ts.foldl (fun a p => addT a p.1 p.2) acc
theorem addAll_app (a b s : SumT) : addAll (a ++ b) s = addAll b (addAll a s) := by unfold addAll; rw [List.foldl_append]
theorem good_addAll : ∀ {ts acc : SumT}, Good acc → Good (addAll ts acc)
  | [], _, g => g
  | p :: ts, _, g => good_addAll (ts := ts) (g.add p.1 p.2)
theorem lin_addAll {f : Wd → Rat} : ∀ {ts acc : SumT}, Good acc → linS f (addAll ts acc) = linS f acc + linS f ts
  | [], acc, g => by show linS f acc = linS f acc + 0; grind
  | p :: ts, acc, g => by
    show linS f (addAll ts (addT acc p.1 p.2)) = linS f acc + (p.2 * f p.1 + linS f ts)
    rw [lin_addAll (g.add p.1 p.2), lin_add g.nd]; grind
theorem Acc.all {N M : Nat} (hN : N ≠ 0) : ∀ {ts : SumT} {k : Nat} {acc : SumT}, Acc N M k acc → (∀ p ∈ ts, Bd N M p.2) → Acc N M (k + ts.length) (addAll ts acc)
  | [], _, _, h, _ => h
  | p :: ts, k, acc, h, hb => by
    have := Acc.all hN (ts := ts) (h.add (w := p.1) hN (hb p List.mem_cons_self)) fun r hr => hb r (List.mem_cons_of_mem _ hr)
    rw [List.length_cons, Nat.add_comm ts.length 1, ← Nat.add_assoc]
    exact this
/-- all words of the first with those of the second behind -/
def joinL (A B : SumT) : SumT := A.flatMap fun p => B.map fun r => (p.1 ++ r.1, p.2 * r.2)
def joinT (A B : SumT) : SumT := addAll (joinL A B) []
theorem joinT_good (A B : SumT) : Good (joinT A B) := good_addAll good_nil
theorem lin_joinT (f : Wd → Rat) (A B : SumT) : linS f (joinT A B) = linS (fun u => linS (fun v => f (u ++ v)) B) A := by
  unfold joinT
  rw [lin_addAll good_nil]
  have h0 : linS f [] = 0 := rfl
  rw [h0]
  induction A with
  | nil => show (0 : Rat) + 0 = 0; grind
  | cons p A ih =>
    have e : joinL (p :: A) B = (B.map fun r => (p.1 ++ r.1, p.2 * r.2)) ++ joinL A B := rfl
    rw [e, lin_append]
    have e2 : linS f (B.map fun r => (p.1 ++ r.1, p.2 * r.2)) = p.2 * linS (fun v => f (p.1 ++ v)) B := by
      clear ih e
      induction B with
      | nil => show (0 : Rat) = p.2 * 0; grind
      | cons r B ih =>
        show p.2 * r.2 * f (p.1 ++ r.1) + linS f (B.map _) = p.2 * (r.2 * f (p.1 ++ r.1) + linS (fun v => f (p.1 ++ v)) B)
        rw [ih]; grind
    rw [e2]
    show _ = p.2 * linS (fun v => f (p.1 ++ v)) B + linS (fun u => linS (fun v => f (u ++ v)) B) A
    grind
theorem joinL_len (A B : SumT) : (joinL A B).length = A.length * B.length := by
  induction A with
  | nil => simp [joinL]
  | cons p A ih =>
    have e : joinL (p :: A) B = (B.map fun r => (p.1 ++ r.1, p.2 * r.2)) ++ joinL A B := rfl
    rw [e, List.length_append, ih, List.length_map, List.length_cons, Nat.add_mul]
    omega
theorem addD_w (a b : Wd) (h : a.length + b.length ≤ 1000) : addD (eWord.en a) (eWord.en b) = some (eWord.en (a ++ b)) := by
  show (if _ then some (D.tup (a.map D.int ++ b.map D.int)) else none) = some (D.tup ((a ++ b).map D.int))
  rw [List.map_append, if_pos]
  rw [List.length_map, List.length_map, sizeLine_is]
  omega

/-! sums and tables within bounds -/
/-- a sum and what bounds it: letters, ways, terms, numbers -/
structure SumB (c k n N M : Nat) (A : SumT) : Prop where
  sm : Sm A
  lt : ∀ p ∈ A, ∀ x ∈ p.1, 0 ≤ x ∧ x < (c : Int)
  ln : ∀ p ∈ A, p.1.length ≤ k
  bd : ∀ p ∈ A, Bd N M p.2
  sz : A.length ≤ n
theorem mem_add {l : SumT} {w : Wd} {q : Rat} {p : Wd × Rat} (h : p ∈ addT l w q) : p.1 = w ∨ p ∈ l := by
  unfold addT at h
  split at h
  · exact .inr (List.mem_filter.mp h).1
  · rcases mem_set h with e | h
    · exact .inl (by rw [e])
    · exact .inr h
theorem mem_addAll : ∀ {ts acc : SumT} {p : Wd × Rat}, p ∈ addAll ts acc → (∃ t ∈ ts, p.1 = t.1) ∨ p ∈ acc
  | [], _, _, h => .inr h
  | t :: ts, acc, p, h => by
    rcases mem_addAll (ts := ts) (acc := addT acc t.1 t.2) h with ⟨x, hx, e⟩ | h
    · exact .inl ⟨x, List.mem_cons_of_mem _ hx, e⟩
    · rcases mem_add h with e | h
      · exact .inl ⟨t, List.mem_cons_self, e⟩
      · exact .inr h
theorem coef_at {l : SumT} (g : Good l) {p : Wd × Rat} (h : p ∈ l) : coef l p.1 = p.2 := by
  unfold coef
  rw [getT_of_mem g.nd (q := p.2) h]
  rfl
/-- a table and what bounds it -/
structure DicB (c k n N M : Nat) (A : SumT) : Prop where
  gd : Good A
  lt : ∀ p ∈ A, ∀ x ∈ p.1, 0 ≤ x ∧ x < (c : Int)
  ln : ∀ p ∈ A, p.1.length ≤ k
  bd : ∀ p ∈ A, Bd N M p.2
  sz : A.length ≤ n
theorem SumB.dic {c k n N M : Nat} {A : SumT} (h : SumB c k n N M A) : DicB c k n N M A := ⟨h.sm.good, h.lt, h.ln, h.bd, h.sz⟩
theorem DicB.told {c k n N M : Nat} {A : SumT} (h : DicB c k n N M A) : SumB c k n N M (toldT A) := by
  have key : ∀ p ∈ toldT A, p ∈ A := fun p hp => (told_perm h.gd.nd).mem_iff.mp hp
  exact ⟨h.gd.told, fun p hp => h.lt p (key p hp), fun p hp => h.ln p (key p hp), fun p hp => h.bd p (key p hp), by rw [(told_perm h.gd.nd).length_eq]; exact h.sz⟩
theorem DicB.of_all {c k N M : Nat} (hN : N ≠ 0) {ts : SumT} (h1 : ∀ t ∈ ts, (∀ x ∈ t.1, 0 ≤ x ∧ x < (c : Int)) ∧ t.1.length ≤ k) (h2 : ∀ t ∈ ts, Bd N M t.2) : DicB c k ts.length N (ts.length * M) (addAll ts []) := by
  have g : Good (addAll ts []) := good_addAll good_nil
  have ac := Acc.all hN (acc_nil N M) h2
  rw [Nat.zero_add] at ac
  have key : ∀ p ∈ addAll ts [], (∃ t ∈ ts, p.1 = t.1) := fun p hp => by
    rcases mem_addAll hp with h | h
    · exact h
    · cases h
  refine ⟨g, fun p hp => ?_, fun p hp => ?_, fun p hp => ?_, ac.len⟩
  · obtain ⟨t, ht, e⟩ := key p hp
    rw [e]; exact (h1 t ht).1
  · obtain ⟨t, ht, e⟩ := key p hp
    rw [e]; exact (h1 t ht).2
  · rw [← coef_at g hp]
    exact ac.bd _

/-! letters: the law's own sums -/
/-- a comprehension that draws -/
theorem compL_turn {α ι : Type} {f : ι → D} {en : α → D} {ρf : D → Rho} {vs : List Nat} {b : D → Rho → Option Rho} {fe : Rho → Out (D × Rho)} {Good : α → Prop} {c : Nat} (st : ∀ i n p, Ps (n + c) p → ∃ ρ1, b (f i) (wipeR (ρf p) vs) = some ρ1 ∧ ∃ v p' ρ3, fe ρ1 = .ok (en v, ρ3) ∧ backR vs (ρf p) ρ3 = ρf p' ∧ Good v ∧ Ps n p') :
    ∀ (l : List ι) (n : Nat) (p : D), Ps (n + l.length * c) p → ∃ (ws : List α) (p' : D), compL vs b tYesF fe (l.map f) (ρf p) = .ok (ws.map en, ρf p') ∧ ws.length = l.length ∧ (∀ v ∈ ws, Good v) ∧ Ps n p'
  | [], n, p, hp => ⟨[], p, rfl, rfl, (by simp), by simpa using hp⟩
  | i :: l, n, p, hp => by
    rw [List.length_cons, Nat.succ_mul] at hp
    obtain ⟨ρ1, e1, v, p1, ρ3, e2, e3, hv, hp1⟩ := st i (n + l.length * c) p (Ps.mono (by omega) hp)
    obtain ⟨ws, p', e4, hl, hg, hp'⟩ := compL_turn st l n p1 hp1
    refine ⟨v :: ws, p', ?_, by simp [hl], ?_, hp'⟩
    · rw [List.map_cons]
      unfold compL
      rw [e1]
      dsimp only [tYesF]
      rw [e2]
      dsimp only
      rw [e3, e4, bind_ok]
      rfl
    · intro x hx
      rcases List.mem_cons.mp hx with rfl | hx
      · exact hv
      · exact hg x hx

theorem getT_map (w : Wd) (q : Rat) : ∀ l : SumT, getT (l.map fun p => if p.1 = w then (p.1, q) else p) w = (getT l w).map fun _ => q
  | [] => rfl
  | p :: l => by
    rw [List.map_cons, getT_cons, getT_cons]
    by_cases h : p.1 = w
    · rw [if_pos h, if_pos h, if_pos h]; rfl
    · rw [if_neg h, if_neg h, if_neg h]; exact getT_map w q l
theorem getT_app (w : Wd) (q : Rat) : ∀ l : SumT, getT l w = none → getT (l ++ [(w, q)]) w = some q
  | [], _ => by rw [List.nil_append, getT_cons, if_pos rfl]
  | p :: l, h => by
    rw [getT_cons] at h
    rw [List.cons_append, getT_cons]
    by_cases e : p.1 = w
    · rw [if_pos e] at h; cases h
    · rw [if_neg e] at h ⊢; exact getT_app w q l h
theorem getT_set (l : SumT) (w : Wd) (q : Rat) : getT (setT l w q) w = some q := by
  unfold setT
  cases h : getT l w with
  | none => rw [if_neg (by simp)]; exact getT_app w q l h
  | some y => rw [if_pos (by rfl), getT_map, h]; rfl
theorem del_map (w : Wd) (q : Rat) : ∀ l : SumT, delT (l.map fun p => if p.1 = w then (p.1, q) else p) w = delT l w
  | [] => rfl
  | p :: l => by
    have ih := del_map w q l
    unfold delT at *
    rw [List.map_cons]
    by_cases h : p.1 = w
    · rw [if_pos h, List.filter_cons_of_neg (by simp [h]), List.filter_cons_of_neg (by simp [h]), ih]
    · rw [if_neg h, List.filter_cons_of_pos (by simp [h]), List.filter_cons_of_pos (by simp [h]), ih]
theorem del_set (l : SumT) (w : Wd) (q : Rat) : delT (setT l w q) w = delT l w := by
  unfold setT
  split
  · exact del_map w q l
  · unfold delT
    rw [List.filter_append, List.filter_cons_of_neg (by simp), List.filter_nil, List.append_nil]
theorem get_E2 (l : SumT) (w : Wd) : ((getT l w).map eRat.en).getD (.tup [.int 0, .int 1]) = eRat.en (coef l w) := get_E l w
theorem law_put_g {i j : Nat} {l : SumT} {w : Wd} {q : Rat} (h1 : Sz i (coef l w)) (h2 : Sz j q) (hij : i + j ≤ 100000000) (hl : l.length ≤ 200000) : m__law_put [dS l, eWord.en w, eRat.en q] = .ok (.non, dS (addT l w q)) := by
  have e1 := law_plus_ok h1 h2 hij
  have hs : (dE eRat.en l).length < sizeLine := by rw [dE_len]; exact len_small hl
  have x1 := ixA_E (getT_set l w (coef l w + q))
  by_cases z : coef l w + q = 0
  · have d0 : (coef l w + q).num = 0 := by rw [z]; rfl
    have ea : addT l w q = delT l w := by unfold addT; rw [if_pos z]
    have v1 : valD (dE eRat.en (setT l w (coef l w + q))) (wk w) = some (eRat.en (coef l w + q)) := by rw [valD_E, getT_set]; rfl
    rw [ea]
    simp (disch := first | assumption | decide | omega) only [m__law_put, b__law_put, runF, m0, sSeq, sSet, sIf, sRet, sRetN, sExpr, sSkip_ok, sSetA, sSetIx, sFor, sPar, sBind, sAug, eVar, eCon_ok, eOp2, eOp1, eCall, eCallM, eCallT, eTup, eLst, eArg, eIf, tVal, tNotF, tAndF, tOrF, eB, eAndF, eOrF, eNotF, eIxA, eIxO, eCatO, ixA_lst, ixA_tup, ixA_scr, eDNew, eDGet, eDGetO, eDPop, eSortK, eMM, aHoleQ, aHole, aNil_ok, aCons, oNone_ok, oSome, eSlice, eSliceL, iSeqA, iSeq, iRange, iArg, ePeek, tPeek, eOwnM, tYes_ok, bind_ok, bind_exc, bind_stuck, of_some, flatD, SW.gName, List.getD_cons_zero, List.getD_cons_succ, List.set_cons_zero, List.set_cons_succ, List.map_cons, List.map_nil, List.length_cons, List.length_nil, List.cons_append, List.nil_append, List.replicate, Nat.reduceAdd, Nat.reduceSub, addD_int, subD_int, negD_int, repD_int, modD_int, fdivD_int, ltA_int, leA_int, gtA_int, geA_int, eqD_int, neD_int, pow_10_18, pow_10_60, Option.getD_some, keyT_word, Option.map_some, Option.bind_some, valD_E, get_E2, e1, hs, if_true, putD_E, x1, r0, decide_eq_true d0, getT_set, dropD_E, del_set]
  · have d0 : ¬ (coef l w + q).num = 0 := num_ne z
    have ea : addT l w q = setT l w (coef l w + q) := by unfold addT; rw [if_neg z]
    rw [ea]
    simp (disch := first | assumption | decide | omega) only [m__law_put, b__law_put, runF, m0, sSeq, sSet, sIf, sRet, sRetN, sExpr, sSkip_ok, sSetA, sSetIx, sFor, sPar, sBind, sAug, eVar, eCon_ok, eOp2, eOp1, eCall, eCallM, eCallT, eTup, eLst, eArg, eIf, tVal, tNotF, tAndF, tOrF, eB, eAndF, eOrF, eNotF, eIxA, eIxO, eCatO, ixA_lst, ixA_tup, ixA_scr, eDNew, eDGet, eDGetO, eDPop, eSortK, eMM, aHoleQ, aHole, aNil_ok, aCons, oNone_ok, oSome, eSlice, eSliceL, iSeqA, iSeq, iRange, iArg, ePeek, tPeek, eOwnM, tYes_ok, bind_ok, bind_exc, bind_stuck, of_some, flatD, SW.gName, List.getD_cons_zero, List.getD_cons_succ, List.set_cons_zero, List.set_cons_succ, List.map_cons, List.map_nil, List.length_cons, List.length_nil, List.cons_append, List.nil_append, List.replicate, Nat.reduceAdd, Nat.reduceSub, addD_int, subD_int, negD_int, repD_int, modD_int, fdivD_int, ltA_int, leA_int, gtA_int, geA_int, eqD_int, neD_int, pow_10_18, pow_10_60, Option.getD_some, keyT_word, Option.map_some, Option.bind_some, valD_E, get_E2, e1, hs, if_true, putD_E, x1, r0, decide_eq_false d0, Bool.false_eq_true, if_false]
theorem law_put_ok {l : SumT} {w : Wd} {q : Rat} (h1 : Sz 4000 (coef l w)) (h2 : Sz 4000 q) (hl : l.length ≤ 200000) : m__law_put [dS l, eWord.en w, eRat.en q] = .ok (.non, dS (addT l w q)) := law_put_g h1 h2 (by decide) hl
theorem law_rank_ok (w : Wd) : m__law_rank [eWord.en w] = .ok (rkE w, .non) := by
  simp (disch := first | assumption | decide | omega) only [m__law_rank, b__law_rank, runF, m0, sSeq, sSet, sIf, sRet, sRetN, sExpr, sSkip_ok, sSetA, sSetIx, sFor, sPar, sBind, sAug, eVar, eCon_ok, eOp2, eOp1, eCall, eCallM, eCallT, eTup, eLst, eArg, eIf, tVal, tNotF, tAndF, tOrF, eB, eAndF, eOrF, eNotF, eIxA, eIxO, eCatO, ixA_lst, ixA_tup, ixA_scr, eDNew, eDGet, eDGetO, eDPop, eSortK, eMM, aHoleQ, aHole, aNil_ok, aCons, oNone_ok, oSome, eSlice, eSliceL, iSeqA, iSeq, iRange, iArg, ePeek, tPeek, eOwnM, tYes_ok, bind_ok, bind_exc, bind_stuck, of_some, flatD, SW.gName, List.getD_cons_zero, List.getD_cons_succ, List.set_cons_zero, List.set_cons_succ, List.map_cons, List.map_nil, List.length_cons, List.length_nil, List.cons_append, List.nil_append, List.replicate, Nat.reduceAdd, Nat.reduceSub, addD_int, subD_int, negD_int, repD_int, modD_int, fdivD_int, ltA_int, leA_int, gtA_int, geA_int, eqD_int, neD_int, pow_10_18, pow_10_60, len_w, rkE]
theorem law_told_ok {l : SumT} (g : Good l) : m__law_told [dS l] = .ok (eSum.en (toldT l), .non) := told_gen law_rank_ok g
/-! drawn -/
theorem pow_10_3 : powD (.int 10) (.int 3) = some (.int 1000) := powD_int (by decide) (by decide)
theorem law_number_ok {n : Nat} {p : D} (hp : Ps (n + 3) p) : ∃ (r : Rat) (p' : D), m__law_number [p] = .ok (eRat.en r, p') ∧ Bd 2520 1000 r ∧ Ps n p' := by
  obtain ⟨g1, p1, e1, g10, g11, hp1⟩ := take_ok (n := n + 2) (many := 5) hp (by decide) (by decide)
  by_cases h3 : g1 < 3
  · have hx : ∃ r : Rat, ixD (.lst [.tup [.int 0, .int 1], .tup [.int 1, .int 1], .tup [.int (-1), .int 1]]) (.int g1) = some (eRat.en r) ∧ Bd 2520 1000 r := by
      have : g1 = 0 ∨ g1 = 1 ∨ g1 = 2 := by omega
      rcases this with rfl | rfl | rfl
      · exact ⟨0, rfl, bd_zero _ _⟩
      · exact ⟨1, rfl, by decide, by decide⟩
      · exact ⟨-1, rfl, by decide, by decide⟩
    obtain ⟨r, er, hr⟩ := hx
    refine ⟨r, p1, ?_, hr, Ps.mono (by omega) hp1⟩
    simp (disch := first | assumption | decide | omega) only [m__law_number, b__law_number, runF, m0, sSeq, sSet, sIf, sRet, sRetN, sExpr, sSkip_ok, sSetA, sSetIx, sFor, sPar, sBind, sAug, eVar, eCon_ok, eOp2, eOp1, eCall, eCallM, eCallT, eTup, eLst, eArg, eIf, tVal, tNotF, tAndF, tOrF, eB, eAndF, eOrF, eNotF, eIxA, eIxO, eCatO, ixA_lst, ixA_tup, ixA_scr, eDNew, eDGet, eDGetO, eDPop, eSortK, eMM, aHoleQ, aHole, aNil_ok, aCons, oNone_ok, oSome, eSlice, eSliceL, iSeqA, iSeq, iRange, iArg, ePeek, tPeek, eOwnM, tYes_ok, bind_ok, bind_exc, bind_stuck, of_some, flatD, SW.gName, List.getD_cons_zero, List.getD_cons_succ, List.set_cons_zero, List.set_cons_succ, List.map_cons, List.map_nil, List.length_cons, List.length_nil, List.cons_append, List.nil_append, List.replicate, Nat.reduceAdd, Nat.reduceSub, addD_int, subD_int, negD_int, repD_int, modD_int, fdivD_int, ltA_int, leA_int, gtA_int, geA_int, eqD_int, neD_int, pow_10_18, pow_10_60, e1, decide_eq_true h3, if_true, er, Option.getD_some]
  · by_cases h5 : g1 = 3
    · obtain ⟨g2, p2, e2, g20, g21, hp2⟩ := take_ok (n := n + 1) (many := 13) hp1 (by decide) (by decide)
      have en : eRat.en (mkRat (g2 - 6) 1) = .tup [.int (g2 - 6), .int 1] := rat_en (mkRat_one _).1 (mkRat_one _).2
      refine ⟨mkRat (g2 - 6) 1, p2, ?_, bd_of (by decide) rfl (by decide) (by omega), Ps.mono (by omega) hp2⟩
      rw [en]
      simp (disch := first | assumption | decide | omega) only [m__law_number, b__law_number, runF, m0, sSeq, sSet, sIf, sRet, sRetN, sExpr, sSkip_ok, sSetA, sSetIx, sFor, sPar, sBind, sAug, eVar, eCon_ok, eOp2, eOp1, eCall, eCallM, eCallT, eTup, eLst, eArg, eIf, tVal, tNotF, tAndF, tOrF, eB, eAndF, eOrF, eNotF, eIxA, eIxO, eCatO, ixA_lst, ixA_tup, ixA_scr, eDNew, eDGet, eDGetO, eDPop, eSortK, eMM, aHoleQ, aHole, aNil_ok, aCons, oNone_ok, oSome, eSlice, eSliceL, iSeqA, iSeq, iRange, iArg, ePeek, tPeek, eOwnM, tYes_ok, bind_ok, bind_exc, bind_stuck, of_some, flatD, SW.gName, List.getD_cons_zero, List.getD_cons_succ, List.set_cons_zero, List.set_cons_succ, List.map_cons, List.map_nil, List.length_cons, List.length_nil, List.cons_append, List.nil_append, List.replicate, Nat.reduceAdd, Nat.reduceSub, addD_int, subD_int, negD_int, repD_int, modD_int, fdivD_int, ltA_int, leA_int, gtA_int, geA_int, eqD_int, neD_int, pow_10_18, pow_10_60, e1, decide_eq_false h3, decide_eq_true h5, if_true, if_false, Bool.false_eq_true, e2, Option.getD_some]
    · have b1 : bits2 2 1000 = true := bits2_l (by decide)
      obtain ⟨g2, p2, e2, g20, g21, hp2⟩ := take_ok (n := n + 1) (many := 2 * 1000 + 1) hp1 (by decide) (by decide)
      obtain ⟨g3, p3, e3, g30, g31, hp3⟩ := take_ok (n := n) (many := 9) hp2 (by decide) (by decide)
      have hd : ∃ d : Nat, 1 + g3 = ((d : Nat) : Int) ∧ (d = 1 ∨ d = 2 ∨ d = 3 ∨ d = 4 ∨ d = 5 ∨ d = 6 ∨ d = 7 ∨ d = 8 ∨ d = 9) := ⟨(1 + g3).toNat, by omega, by omega⟩
      obtain ⟨d, ed, d1⟩ := hd
      have el := law_low_ok (g2 - 1000) (show d ≠ 0 by omega)
      refine ⟨mkRat (g2 - 1000) d, p3, ?_, bd_of (by omega) rfl (by rcases d1 with h | h | h | h | h | h | h | h | h <;> subst h <;> decide) (by omega), hp3⟩
      simp (disch := first | assumption | decide | omega) only [m__law_number, b__law_number, runF, m0, sSeq, sSet, sIf, sRet, sRetN, sExpr, sSkip_ok, sSetA, sSetIx, sFor, sPar, sBind, sAug, eVar, eCon_ok, eOp2, eOp1, eCall, eCallM, eCallT, eTup, eLst, eArg, eIf, tVal, tNotF, tAndF, tOrF, eB, eAndF, eOrF, eNotF, eIxA, eIxO, eCatO, ixA_lst, ixA_tup, ixA_scr, eDNew, eDGet, eDGetO, eDPop, eSortK, eMM, aHoleQ, aHole, aNil_ok, aCons, oNone_ok, oSome, eSlice, eSliceL, iSeqA, iSeq, iRange, iArg, ePeek, tPeek, eOwnM, tYes_ok, bind_ok, bind_exc, bind_stuck, of_some, flatD, SW.gName, List.getD_cons_zero, List.getD_cons_succ, List.set_cons_zero, List.set_cons_succ, List.map_cons, List.map_nil, List.length_cons, List.length_nil, List.cons_append, List.nil_append, List.replicate, Nat.reduceAdd, Nat.reduceSub, addD_int, subD_int, negD_int, repD_int, modD_int, fdivD_int, ltA_int, leA_int, gtA_int, geA_int, eqD_int, neD_int, pow_10_18, pow_10_60, pow_10_3, e1, decide_eq_false h3, decide_eq_false h5, if_true, if_false, Bool.false_eq_true, e2, e3, ed, el, Option.getD_some]
theorem tuple_i (w : Wd) : tupleD [.lst (w.map D.int)] = some (eWord.en w) := rfl
theorem law_word_ok {n c k : Nat} (c1 : 1 ≤ c) (c4 : c ≤ 1000) (hk : k ≤ 1000) {p : D} (hp : Ps (n + k + 1) p) : ∃ (w : Wd) (p' : D), m__law_word [p, .int c, .int k] = .ok (eWord.en w, p') ∧ w.length ≤ k ∧ (∀ x ∈ w, 0 ≤ x ∧ x < (c : Int)) ∧ Ps n p' := by
  have h200 : (2 : Int) ^ 200 = 1606938044258990275541962092341162602522202993782792835301376 := by decide
  obtain ⟨g, p1, e1, g0, g1, hp1⟩ := take_ok (n := n + k) (many := (k : Nat) + 1) hp (by omega) (by omega)
  have hr := rangeD1 (j := g) g0 (by omega)
  obtain ⟨w, p2, e2, wl, wg, hp2⟩ := compL_turn (vs := [3]) (b := gName 3) (fe := eCallM m__law_take 0 0 (aHoleQ 0 (aCons (eVar 1) aNil))) (en := D.int) (f := fun i : Nat => D.int ((i : Nat) : Int)) (ρf := fun p => [some p, some (.int c), some (.int k), none]) (Good := fun x => 0 ≤ x ∧ x < (c : Int)) (c := 1) (by
    intro i n p hp
    obtain ⟨g, p1, e, g0, g1, hp1⟩ := take_ok (n := n) (p := p) (many := c) hp (by omega) (by omega)
    refine ⟨[some p, some (.int c), some (.int k), some (.int i)], rfl, g, p1, [some p1, some (.int c), some (.int k), some (.int i)], ?_, rfl, ⟨g0, g1⟩, hp1⟩
    simp (disch := first | assumption | decide | omega) only [runF, m0, sSeq, sSet, sIf, sRet, sRetN, sExpr, sSkip_ok, sSetA, sSetIx, sFor, sPar, sBind, sAug, eVar, eCon_ok, eOp2, eOp1, eCall, eCallM, eCallT, eTup, eLst, eArg, eIf, tVal, tNotF, tAndF, tOrF, eB, eAndF, eOrF, eNotF, eIxA, eIxO, eCatO, ixA_lst, ixA_tup, ixA_scr, eDNew, eDGet, eDGetO, eDPop, eSortK, eMM, aHoleQ, aHole, aNil_ok, aCons, oNone_ok, oSome, eSlice, eSliceL, iSeqA, iSeq, iRange, iArg, ePeek, tPeek, eOwnM, tYes_ok, bind_ok, bind_exc, bind_stuck, of_some, flatD, SW.gName, List.getD_cons_zero, List.getD_cons_succ, List.set_cons_zero, List.set_cons_succ, List.map_cons, List.map_nil, List.length_cons, List.length_nil, List.cons_append, List.nil_append, List.replicate, Nat.reduceAdd, Nat.reduceSub, addD_int, subD_int, negD_int, repD_int, modD_int, fdivD_int, ltA_int, leA_int, gtA_int, geA_int, eqD_int, neD_int, pow_10_18, pow_10_60, e, Option.getD_some]) (List.range g.toNat) n p1 (Ps.mono (by rw [List.length_range]; omega) hp1)
  rw [List.length_range] at wl
  refine ⟨w, p2, ?_, by omega, wg, hp2⟩
  simp (disch := first | assumption | decide | omega) only [m__law_word, b__law_word, runF, m0, sSeq, sSet, sIf, sRet, sRetN, sExpr, sSkip_ok, sSetA, sSetIx, sFor, sPar, sBind, sAug, eVar, eCon_ok, eOp2, eOp1, eCall, eCallM, eCallT, eTup, eLst, eArg, eIf, tVal, tNotF, tAndF, tOrF, eB, eAndF, eOrF, eNotF, eIxA, eIxO, eCatO, ixA_lst, ixA_tup, ixA_scr, eDNew, eDGet, eDGetO, eDPop, eSortK, eMM, aHoleQ, aHole, aNil_ok, aCons, oNone_ok, oSome, eSlice, eSliceL, iSeqA, iSeq, iRange, iArg, ePeek, tPeek, eOwnM, tYes_ok, bind_ok, bind_exc, bind_stuck, of_some, flatD, SW.gName, List.getD_cons_zero, List.getD_cons_succ, List.set_cons_zero, List.set_cons_succ, List.map_cons, List.map_nil, List.length_cons, List.length_nil, List.cons_append, List.nil_append, List.replicate, Nat.reduceAdd, Nat.reduceSub, addD_int, subD_int, negD_int, repD_int, modD_int, fdivD_int, ltA_int, leA_int, gtA_int, geA_int, eqD_int, neD_int, pow_10_18, pow_10_60, e1, hr, eComp, e2, tuple_i, Option.getD_some]
theorem good_set {l : SumT} {w : Wd} {q : Rat} (g : Good l) (hq : q ≠ 0) : Good (setT l w q) := ⟨nodup_set g.nd, fun p hp => by
  rcases mem_set hp with e | hp
  · rw [e]; exact hq
  · exact g.nz p hp⟩
theorem DicB.set {c k n N M : Nat} {l : SumT} {w : Wd} {q : Rat} (h : DicB c k n N M l) (hq : q ≠ 0) (hw : w.length ≤ k) (hx : ∀ x ∈ w, 0 ≤ x ∧ x < (c : Int)) (hb : Bd N M q) : DicB c k (n + 1) N M (setT l w q) := by
  refine ⟨good_set h.gd hq, fun p hp => ?_, fun p hp => ?_, fun p hp => ?_, Nat.le_trans (set_len _ _ _) (Nat.add_le_add_right h.sz 1)⟩
  · rcases mem_set hp with e | hp
    · rw [e]; exact hx
    · exact h.lt p hp
  · rcases mem_set hp with e | hp
    · rw [e]; exact hw
    · exact h.ln p hp
  · rcases mem_set hp with e | hp
    · rw [e]; exact hb
    · exact h.bd p hp
theorem law_sum_ok {n c k many : Nat} (c1 : 1 ≤ c) (c4 : c ≤ 1000) (hk : k ≤ 5) (hm : many ≤ 20) {p : D} (hp : Ps (n + many * 9 + 1) p) : ∃ (l : SumT) (p' : D), m__law_sum [p, .int c, .int many, .int k] = .ok (dS l, p') ∧ DicB c k many 2520 1000 l ∧ Ps n p' := by
  have h200 : (2 : Int) ^ 200 = 1606938044258990275541962092341162602522202993782792835301376 := by decide
  obtain ⟨g, p1, e1, g0, g1, hp1⟩ := take_ok (n := n + many * 9) (many := (many : Nat) + 1) hp (by omega) (by omega)
  have hr := rangeD1 (j := g) g0 (by omega)
  obtain ⟨ρ', e, l', p', j, hl, hp', hj, _, y1, y2, y3, rfl⟩ := forL_foldr (b := gName 5) (g := (sSeq (sSet 6 (eCallM m__law_word 0 0 (aHoleQ 0 (aCons (eVar 1) (aCons (eVar 3) aNil))))) (sSeq (sSet 7 (eCallM m__law_number 0 0 (aHoleQ 0 aNil))) (sIf (tVal (eOp2 neD (eOp2 ixA (eVar 7) (eCon (.int 0))) (eCon (.int 0)))) (sSetA 4 (eVar 7) (eVar 6)) sSkip)))) (f := fun i : Nat => D.int ((i : Nat) : Int)) (σ := Unit) (step := fun s _ => s)
    (St := fun rem _ ρ => ∃ (l : SumT) (p : D) (j : Nat), DicB c k j 2520 1000 l ∧ Ps (n + rem.length * 9) p ∧ j + rem.length ≤ many ∧ True ∧ ∃ y1 y2 y3, ρ = [some p, some (.int c), some (.int many), some (.int k), some (dS l), y1, y2, y3]) (List.range g.toNat) () [some p1, some (.int c), some (.int many), some (.int k), some (dS []), none, none, none]
    ⟨[], p1, 0, ⟨good_nil, by simp, by simp, by simp, Nat.le_refl _⟩, Ps.mono (by rw [List.length_range]; omega) hp1, by rw [List.length_range]; omega, trivial, _, _, _, rfl⟩ (by
    rintro i rem _ ρ ⟨l, p, j, hl, hp, hj, _, y1, y2, y3, rfl⟩
    rw [List.length_cons] at hp hj
    obtain ⟨w, p2, e2, w1, w2, hp2⟩ := law_word_ok (n := n + rem.length * 9 + 3) (k := k) c1 c4 (by omega) (p := p) (Ps.mono (by omega) hp)
    obtain ⟨q, p3, e3, q1, hp3⟩ := law_number_ok hp2
    by_cases hq : q = 0
    · have d0 : q.num = 0 := by rw [hq]; rfl
      refine ⟨_, [some p3, some (.int c), some (.int many), some (.int k), some (dS l), some (.int i), some (eWord.en w), some (eRat.en q)], rfl, ?_, l, p3, j, hl, hp3, by omega, trivial, _, _, _, rfl⟩
      simp (disch := first | assumption | decide | omega) only [runF, m0, sSeq, sSet, sIf, sRet, sRetN, sExpr, sSkip_ok, sSetA, sSetIx, sFor, sPar, sBind, sAug, eVar, eCon_ok, eOp2, eOp1, eCall, eCallM, eCallT, eTup, eLst, eArg, eIf, tVal, tNotF, tAndF, tOrF, eB, eAndF, eOrF, eNotF, eIxA, eIxO, eCatO, ixA_lst, ixA_tup, ixA_scr, eDNew, eDGet, eDGetO, eDPop, eSortK, eMM, aHoleQ, aHole, aNil_ok, aCons, oNone_ok, oSome, eSlice, eSliceL, iSeqA, iSeq, iRange, iArg, ePeek, tPeek, eOwnM, tYes_ok, bind_ok, bind_exc, bind_stuck, of_some, flatD, SW.gName, List.getD_cons_zero, List.getD_cons_succ, List.set_cons_zero, List.set_cons_succ, List.map_cons, List.map_nil, List.length_cons, List.length_nil, List.cons_append, List.nil_append, List.replicate, Nat.reduceAdd, Nat.reduceSub, addD_int, subD_int, negD_int, repD_int, modD_int, fdivD_int, ltA_int, leA_int, gtA_int, geA_int, eqD_int, neD_int, pow_10_18, pow_10_60, Option.getD_some, e2, e3, r0, decide_eq_true d0, Bool.not_true, Bool.false_eq_true, if_false]
    · have d0 : ¬ q.num = 0 := num_ne hq
      have hs : (dE eRat.en l).length < sizeLine := by rw [dE_len]; exact len_small (by have := hl.sz; omega)
      refine ⟨_, [some p3, some (.int c), some (.int many), some (.int k), some (dS (setT l w q)), some (.int i), some (eWord.en w), some (eRat.en q)], rfl, ?_, setT l w q, p3, j + 1, hl.set hq w1 w2 q1, hp3, by omega, trivial, _, _, _, rfl⟩
      simp (disch := first | assumption | decide | omega) only [runF, m0, sSeq, sSet, sIf, sRet, sRetN, sExpr, sSkip_ok, sSetA, sSetIx, sFor, sPar, sBind, sAug, eVar, eCon_ok, eOp2, eOp1, eCall, eCallM, eCallT, eTup, eLst, eArg, eIf, tVal, tNotF, tAndF, tOrF, eB, eAndF, eOrF, eNotF, eIxA, eIxO, eCatO, ixA_lst, ixA_tup, ixA_scr, eDNew, eDGet, eDGetO, eDPop, eSortK, eMM, aHoleQ, aHole, aNil_ok, aCons, oNone_ok, oSome, eSlice, eSliceL, iSeqA, iSeq, iRange, iArg, ePeek, tPeek, eOwnM, tYes_ok, bind_ok, bind_exc, bind_stuck, of_some, flatD, SW.gName, List.getD_cons_zero, List.getD_cons_succ, List.set_cons_zero, List.set_cons_succ, List.map_cons, List.map_nil, List.length_cons, List.length_nil, List.cons_append, List.nil_append, List.replicate, Nat.reduceAdd, Nat.reduceSub, addD_int, subD_int, negD_int, repD_int, modD_int, fdivD_int, ltA_int, leA_int, gtA_int, geA_int, eqD_int, neD_int, pow_10_18, pow_10_60, Option.getD_some, e2, e3, r0, decide_eq_false d0, Bool.not_false, if_true, keyT_word, Option.bind_some, hs, putD_E])
  rw [List.length_nil] at hp' hj
  have en : D.dct [] = dS [] := rfl
  refine ⟨l', p', ?_, ⟨hl.gd, hl.lt, hl.ln, hl.bd, Nat.le_trans hl.sz (by omega)⟩, Ps.mono (by omega) hp'⟩
  simp (disch := first | assumption | decide | omega) only [m__law_sum, b__law_sum, runF, m0, sSeq, sSet, sIf, sRet, sRetN, sExpr, sSkip_ok, sSetA, sSetIx, sFor, sPar, sBind, sAug, eVar, eCon_ok, eOp2, eOp1, eCall, eCallM, eCallT, eTup, eLst, eArg, eIf, tVal, tNotF, tAndF, tOrF, eB, eAndF, eOrF, eNotF, eIxA, eIxO, eCatO, ixA_lst, ixA_tup, ixA_scr, eDNew, eDGet, eDGetO, eDPop, eSortK, eMM, aHoleQ, aHole, aNil_ok, aCons, oNone_ok, oSome, eSlice, eSliceL, iSeqA, iSeq, iRange, iArg, ePeek, tPeek, eOwnM, tYes_ok, bind_ok, bind_exc, bind_stuck, of_some, flatD, SW.gName, List.getD_cons_zero, List.getD_cons_succ, List.set_cons_zero, List.set_cons_succ, List.map_cons, List.map_nil, List.length_cons, List.length_nil, List.cons_append, List.nil_append, List.replicate, Nat.reduceAdd, Nat.reduceSub, addD_int, subD_int, negD_int, repD_int, modD_int, fdivD_int, ltA_int, leA_int, gtA_int, geA_int, eqD_int, neD_int, pow_10_18, pow_10_60, Option.getD_some, en, e1, hr, e]

/-! small sums; lists of two; bounds at hand -/
abbrev plainS : SumT := [([], 1)]
theorem told_nil : toldT [] = [] := by simp [toldT]
theorem sumB_plain (c : Nat) : SumB c 0 1 1 1 plainS := ⟨⟨List.pairwise_singleton _ _, by simp⟩, by simp, by simp, by
  intro p hp
  rw [List.mem_singleton.mp hp]
  exact ⟨by decide, by decide⟩, by simp⟩
theorem sumB_nil (c : Nat) : SumB c 0 1 1 1 [] := ⟨⟨List.Pairwise.nil, by simp⟩, by simp, by simp, by simp, by simp⟩
theorem SumB.rfl_mono {c k k' n N M : Nat} {A : SumT} (h : SumB c k n N M A) (hk : k ≤ k') : SumB c k' n N M A := ⟨h.sm, h.lt, fun p hp => Nat.le_trans (h.ln p hp) hk, h.bd, h.sz⟩
theorem small_of {N M : Nat} (h0 : N ≠ 0) (h1 : N < 2 ^ 250) (h2 : 100000 * M * N < 2 ^ 250) : Small N M := ⟨h0, Nat.lt_of_lt_of_le h1 (Nat.pow_le_pow_right (by decide) (by decide)), Nat.lt_of_lt_of_le h2 (Nat.pow_le_pow_right (by decide) (by decide))⟩
theorem sm1 : Small 1 1 := small_of (by decide) (by decide) (by decide)
theorem smA : Small 2520 1000 := small_of (by decide) (by decide) (by decide)
theorem smAA : Small (2520 * 2520) (1000 * 1000) := small_of (by decide) (by decide) (by decide)
theorem smB : Small (2520 * 2520) (4 * 4 * (1000 * 1000)) := small_of (by decide) (by decide) (by decide)
theorem smC : Small (2520 * 2520 * 2520) (4 * 4 * (1000 * 1000) * 1000) := small_of (by decide) (by decide) (by decide)
theorem smC' : Small (2520 * (2520 * 2520)) (1000 * (4 * 4 * (1000 * 1000))) := small_of (by decide) (by decide) (by decide)
theorem small_l {N M : Nat} (h : Small N M) : Small (1 * N) (1 * M) := by rw [Nat.one_mul, Nat.one_mul]; exact h
theorem small_r {N M : Nat} (h : Small N M) : Small (N * 1) (M * 1) := by rw [Nat.mul_one, Nat.mul_one]; exact h
theorem l20 (a b : D) : ixD (.lst [a, b]) (.int 0) = some a := rfl
theorem l21 (a b : D) : ixD (.lst [a, b]) (.int 1) = some b := rfl
theorem list_sum (A : SumT) : listD [eSum.en A] = some (eSum.en A) := rfl
theorem neD_sum (A B : SumT) : neD (eSum.en A) (eSum.en B) = some (.bl (!decide (A = B))) := neD_enc eSum (by decide) A B
theorem eqD_sum (A B : SumT) : eqD (eSum.en A) (eSum.en B) = some (.bl (decide (A = B))) := eqD_enc eSum (by decide) A B
theorem neD_two (A B : SumT) : neD (.lst [eSum.en A, eSum.en B]) (.lst [eSum.en A, eSum.en B]) = some (.bl false) := by
  have := neD_enc (eLstOf eSum) (by decide) [A, B] [A, B]
  rw [decide_eq_true rfl] at this
  exact this
theorem eqD_two (A B : SumT) : eqD (.lst [eSum.en A, eSum.en B]) (.lst [eSum.en A, eSum.en B]) = some (.bl true) := by
  have := eqD_enc (eLstOf eSum) (by decide) [A, B] [A, B]
  rw [decide_eq_true rfl] at this
  exact this
theorem compL_one {vs : List Nat} {b : D → Rho → Option Rho} {fe : Rho → Out (D × Rho)} {d v : D} {ρ ρ1 ρ3 ρ4 : Rho} {l ws : List D} (h1 : b d (wipeR ρ vs) = some ρ1) (h2 : fe ρ1 = .ok (v, ρ3)) (h3 : compL vs b tYesF fe l (backR vs ρ ρ3) = .ok (ws, ρ4)) : compL vs b tYesF fe (d :: l) ρ = .ok (v :: ws, ρ4) := by
  unfold compL
  rw [h1]
  dsimp only [tYesF]
  rw [h2]
  dsimp only
  rw [h3, bind_ok]

/-! the text of a told sum -/
theorem piledU {m : Nat} : ∀ {ts : List Str}, (∀ t ∈ ts, t.length ≤ m) → piled ts ≤ ts.length * (m + 2)
  | [], _ => by rw [piled_nil]; omega
  | t :: ts, h => by
    have h1 := h t List.mem_cons_self
    have h2 := piledU (ts := ts) fun x hx => h x (List.mem_cons_of_mem _ hx)
    rw [piled_cons, List.length_cons, Nat.add_mul]
    omega
theorem listTextU (ts : List Str) : (listText ts).length ≤ 2 + piled ts := by
  cases ts with
  | nil => rw [PySem.listText_nil]; decide
  | cons t r =>
    have h := textFrom_length_pos r 1 (("[" : Str) ++ (if (0 : Nat) > 0 then ", " else "" : String) ++ t) (Nat.succ_pos 0)
    have e : ((("[" : Str) ++ (if (0 : Nat) > 0 then ", " else "" : String) ++ t)).length = 1 + t.length := by
      rw [strLen_append, strLen_append]; rfl
    have e2 : (listText (t :: r)).length = (textFrom 1 (("[" : Str) ++ (if (0 : Nat) > 0 then ", " else "" : String) ++ t) r).length + 1 := by
      show (textFrom 1 _ r ++ "]").length = _
      rw [strLen_append]; rfl
    rw [e2, h, e, piled_cons]
    omega
theorem tupleTextU (ts : List Str) : (tupleText ts).length ≤ 3 + piled ts := by
  unfold tupleText
  rw [strLen_append, strLen_append]
  have e1 : ((("(" : String) : Str)).length = 1 := rfl
  have e3 : (((if ts.length == 1 then ",)" else ")" : String) : Str)).length ≤ 2 := by split <;> decide
  have e2 : (Str.join ", " ts).length ≤ piled ts := by
    cases ts with
    | nil => exact Nat.le_of_eq rfl
    | cons t r => have := join_length_add (t :: r) (by simp); omega
  omega
theorem intTextU {i : Int} {k : Nat} (hk : 0 < k) (h : i.natAbs < 10 ^ k) : (PyData.shown (.int i)).length ≤ k + 1 := by
  show (Str.ofString (toString i)).length ≤ _
  rw [PySem.ofString_length]
  exact int_text_length_le10 hk h
theorem shownL (ps : List PyData) : PyData.shownAll ps = ps.map PyData.shown := by
  induction ps with
  | nil => rfl
  | cons p ps ih => show p.shown :: PyData.shownAll ps = _; rw [ih]; rfl
theorem showL {ps : List PyData} (h : ∀ p ∈ ps, p.showable = true) : PyData.showableAll ps = true := by
  induction ps with
  | nil => rfl
  | cons p ps ih =>
    show (p.showable && PyData.showableAll ps) = true
    rw [h p List.mem_cons_self, ih fun x hx => h x (List.mem_cons_of_mem _ hx)]
    rfl
theorem int_show {i : Int} {k : Nat} (hk : k ≤ 570) (h : i.natAbs < 10 ^ k) : (PyData.int i).showable = true := by
  show decide (i.natAbs.log2 < 1920) = true
  refine decide_eq_true ?_
  by_cases h0 : i.natAbs = 0
  · rw [h0]; decide
  · refine (Nat.log2_lt h0).mpr (Nat.lt_of_lt_of_le h ?_)
    refine Nat.le_trans (Nat.pow_le_pow_right (by decide) hk) ?_
    decide +kernel
structure ShT (a b : Nat) (p : Wd × Rat) : Prop where
  ln : p.1.length ≤ 5
  lt : ∀ x ∈ p.1, 0 ≤ x ∧ x < 10
  n : p.2.num.natAbs < 10 ^ a
  d : p.2.den < 10 ^ b
theorem wd_text {w : Wd} (h : w.length ≤ 5) (l : ∀ x ∈ w, 0 ≤ x ∧ x < 10) : (eWord.py w).shown.length ≤ 23 ∧ (eWord.py w).showable = true := by
  have e : eWord.py w = .tuple (w.map PyData.int) := rfl
  rw [e]
  refine ⟨?_, showL ?_⟩
  · show (tupleText (PyData.shownAll (w.map PyData.int))).length ≤ 23
    rw [shownL]
    have h1 := tupleTextU ((w.map PyData.int).map PyData.shown)
    have h2 : piled ((w.map PyData.int).map PyData.shown) ≤ ((w.map PyData.int).map PyData.shown).length * (2 + 2) := piledU (m := 2) (by
      intro t ht
      obtain ⟨p, hp, rfl⟩ := List.mem_map.mp ht
      obtain ⟨x, hx, rfl⟩ := List.mem_map.mp hp
      exact intTextU (k := 1) (by decide) (by have := l x hx; omega))
    rw [List.length_map, List.length_map] at h2
    omega
  · intro p hp
    obtain ⟨x, hx, rfl⟩ := List.mem_map.mp hp
    exact int_show (k := 1) (by decide) (by have := l x hx; omega)
theorem term_text {a b : Nat} (a0 : 0 < a) (b0 : 0 < b) (ha : a ≤ 570) (hb : b ≤ 570) {p : Wd × Rat} (h : ShT a b p) : (eTerm.py p).shown.length ≤ a + b + 39 ∧ (eTerm.py p).showable = true := by
  obtain ⟨w1, w2⟩ := wd_text h.ln h.lt
  have e : eTerm.py p = .tuple [eWord.py p.1, .tuple [.int p.2.num, .int (p.2.den : Nat)]] := rfl
  have n1 := intTextU a0 h.n
  have d1 := intTextU (i := ((p.2.den : Nat) : Int)) b0 (by rw [Int.natAbs_natCast]; exact h.d)
  rw [e]
  refine ⟨?_, showL ?_⟩
  · show (tupleText [(eWord.py p.1).shown, tupleText [PyData.shown (.int p.2.num), PyData.shown (.int (p.2.den : Nat))]]).length ≤ _
    have h1 := tupleTextU [(eWord.py p.1).shown, tupleText [PyData.shown (.int p.2.num), PyData.shown (.int (p.2.den : Nat))]]
    have h2 := tupleTextU [PyData.shown (.int p.2.num), PyData.shown (.int (p.2.den : Nat))]
    rw [piled_cons, piled_cons, piled_nil] at h1 h2
    omega
  · intro q hq
    rcases List.mem_cons.mp hq with rfl | hq
    · exact w2
    · rcases List.mem_cons.mp hq with rfl | hq
      · refine showL fun q hq => ?_
        rcases List.mem_cons.mp hq with rfl | hq
        · exact int_show ha h.n
        · rcases List.mem_cons.mp hq with rfl | hq
          · exact int_show hb (by rw [Int.natAbs_natCast]; exact h.d)
          · cases hq
      · cases hq
/-- the text of a told sum -/
def textS (l : SumT) : Str := (eSum.py l).shown
theorem str_sum {a b : Nat} (a0 : 0 < a) (b0 : 0 < b) (ha : a ≤ 570) (hb : b ≤ 570) {l : SumT} (h : ∀ p ∈ l, ShT a b p) (hl : l.length * (a + b + 41) ≤ 16000000) : strD [eSum.en l] = some (.str (textS l)) := by
  have e1 : D.py (.lst (l.map eTerm.en)) = some (eSum.py l) := eSum.hpy l
  have e2 : fitsP (eSum.py l) = true := by
    unfold fitsP
    rw [Bool.and_eq_true, Bool.and_eq_true]
    have e : eSum.py l = .list (l.map eTerm.py) := rfl
    refine ⟨?_, decide_eq_true (Nat.le_trans (eSum.hdp l) (by decide)), decide_eq_true ?_⟩
    · rw [e]
      refine showL fun q hq => ?_
      obtain ⟨p, hp, rfl⟩ := List.mem_map.mp hq
      exact (term_text a0 b0 ha hb (h p hp)).2
    · rw [e]
      show (listText (PyData.shownAll (l.map eTerm.py))).length ≤ _
      rw [shownL]
      have h1 := listTextU ((l.map eTerm.py).map PyData.shown)
      have h2 : piled ((l.map eTerm.py).map PyData.shown) ≤ ((l.map eTerm.py).map PyData.shown).length * (a + b + 39 + 2) := piledU (by
        intro t ht
        obtain ⟨q, hq, rfl⟩ := List.mem_map.mp ht
        obtain ⟨p, hp, rfl⟩ := List.mem_map.mp hq
        exact (term_text a0 b0 ha hb (h p hp)).1)
      rw [List.length_map, List.length_map, show a + b + 39 + 2 = a + b + 41 from rfl] at h2
      have h3 : sizeLine = 16777216 := by decide
      omega
  show (match D.py (.lst (l.map eTerm.en)) with
    | some p => if fitsP p = true then some (D.str p.shown) else none
    | none => none) = _
  rw [e1]
  show (if fitsP (eSum.py l) = true then some (D.str (eSum.py l).shown) else none) = _
  rw [if_pos e2]
  rfl
theorem neS_str (x : Str) : neS (.str x) (.str x) = some (.bl false) := by
  show some (D.bl (!decide (x = x))) = _
  rw [decide_eq_true rfl]
  rfl

/-! letters joined: what the program tells -/
def mxL (A : SumT) : Nat := (A.map fun p => p.1.length).foldl max 0
theorem foldl_max_le {c : Nat} : ∀ {l : List Nat} {a : Nat}, a ≤ c → (∀ x ∈ l, x ≤ c) → l.foldl max a ≤ c
  | [], _, h, _ => h
  | x :: l, a, h, hl => foldl_max_le (l := l) (Nat.max_le.mpr ⟨h, hl x List.mem_cons_self⟩) fun y hy => hl y (List.mem_cons_of_mem _ hy)
theorem mxL_le {A : SumT} {c : Nat} (h : ∀ p ∈ A, p.1.length ≤ c) : mxL A ≤ c := foldl_max_le (Nat.zero_le _) fun x hx => by
  obtain ⟨p, hp, rfl⟩ := List.mem_map.mp hx
  exact h p hp
theorem foldM_cast : ∀ (l : List Nat) (a : Nat), foldM true (a : Int) (l.map fun n : Nat => (n : Int)) = ((l.foldl max a : Nat) : Int)
  | [], _ => rfl
  | x :: l, a => by
    have ih := foldM_cast l (max a x)
    have e : ((max a x : Nat) : Int) = max (a : Int) (x : Int) := by omega
    rw [e] at ih
    exact ih
theorem intsOf_len : ∀ l : SumT, intsOf (l.map fun p => D.int (p.1.length : Nat)) = some ((l.map fun p => p.1.length).map fun n : Nat => (n : Int))
  | [] => rfl
  | p :: l => by
    show (intsOf (l.map _)).map _ = _
    rw [intsOf_len l]
    rfl
theorem check_count_ok {c : Nat} (h1 : 1 ≤ c) (h2 : c ≤ 4) : m_check_count [.int c] = .ok (.non, .non) := by
  have d1 : ¬ ((c : Nat) : Int) < 1 := by omega
  have d2 : ¬ (4 : Int) < ((c : Nat) : Int) := by omega
  simp (disch := first | assumption | decide | omega) only [m_check_count, b_check_count, runF, m0, sSeq, sSet, sIf, sRet, sRetN, sExpr, sSkip_ok, sSetA, sSetIx, sFor, sPar, sBind, sAug, eVar, eCon_ok, eOp2, eOp1, eCall, eCallM, eCallT, eTup, eLst, eArg, eIf, tVal, tNotF, tAndF, tOrF, eB, eAndF, eOrF, eNotF, eIxA, eIxO, eCatO, ixA_lst, ixA_tup, ixA_scr, eDNew, eDGet, eDGetO, eDPop, eSortK, eMM, aHoleQ, aHole, aNil_ok, aCons, oNone_ok, oSome, eSlice, eSliceL, iSeqA, iSeq, iRange, iArg, ePeek, tPeek, eOwnM, tYes_ok, bind_ok, bind_exc, bind_stuck, of_some, flatD, SW.gName, List.getD_cons_zero, List.getD_cons_succ, List.set_cons_zero, List.set_cons_succ, List.map_cons, List.map_nil, List.length_cons, List.length_nil, List.cons_append, List.nil_append, List.replicate, Nat.reduceAdd, Nat.reduceSub, addD_int, subD_int, negD_int, repD_int, modD_int, fdivD_int, ltA_int, leA_int, gtA_int, geA_int, eqD_int, neD_int, pow_10_18, pow_10_60, k_MOST_LETTERS, is_whole_ok, decide_eq_false d1, decide_eq_false d2, Bool.not_true, Bool.false_eq_true, if_false]
theorem SumB.ok {c k n N M : Nat} {A : SumT} (h : SumB c k n N M A) (hk : k ≤ 5) : SumOk c A := ⟨h.sm, fun p hp => ⟨Nat.le_trans (h.ln p hp) hk, h.lt p hp⟩⟩

theorem tok_w (w : Wd) : tokL (w.map D.int) = true := by
  induction w with
  | nil => rfl
  | cons x w ih => exact ih
theorem tok_sum (a : SumT) : tokL (a.map eTerm.en) = true := by
  induction a with
  | nil => rfl
  | cons p a ih =>
    show (tokD (eTerm.en p) && tokL (a.map eTerm.en)) = true
    rw [ih]
    show ((tokL (p.1.map D.int) && (true && true)) && true) = true
    rw [tok_w]
    rfl
/-! letters joined, longer words left out -/
def cutJ (A B : SumT) : SumT := (joinL A B).filter fun t => decide (t.1.length ≤ 5)
def cutT (A B : SumT) : SumT := addAll (cutJ A B) []
abbrev stIn (w : Wd) (q : Rat) (s : SumT) (r : Wd × Rat) : SumT := if w.length + r.1.length ≤ 5 then addT s (w ++ r.1) (q * r.2) else s
theorem fold_in (w : Wd) (q : Rat) : ∀ (B s : SumT), B.foldl (stIn w q) s = addAll ((B.map fun r => (w ++ r.1, q * r.2)).filter fun t => decide (t.1.length ≤ 5)) s
  | [], s => rfl
  | r :: B, s => by
    rw [List.foldl_cons, fold_in w q B, List.map_cons, List.filter_cons]
    by_cases h : w.length + r.1.length ≤ 5
    · have h' : (w ++ r.1).length ≤ 5 := by rw [List.length_append]; exact h
      rw [if_pos (decide_eq_true h')]
      unfold stIn
      rw [if_pos h]
      rfl
    · have h' : ¬ (w ++ r.1).length ≤ 5 := by rw [List.length_append]; exact h
      rw [if_neg (by simpa using h')]
      unfold stIn
      rw [if_neg h]
theorem fold_out (B : SumT) : ∀ (A s : SumT), A.foldl (fun s p => B.foldl (stIn p.1 p.2) s) s = addAll (cutJ A B) s
  | [], s => rfl
  | p :: A, s => by
    have e : cutJ (p :: A) B = ((B.map fun r => (p.1 ++ r.1, p.2 * r.2)).filter fun t => decide (t.1.length ≤ 5)) ++ cutJ A B := by
      unfold cutJ joinL
      rw [List.flatMap_cons, List.filter_append]
    rw [List.foldl_cons, fold_out B A, fold_in, e]
    unfold addAll
    rw [List.foldl_append]
theorem cutT_good (A B : SumT) : Good (cutT A B) := good_addAll good_nil
abbrev inShort : Rho → Out Fl := (sIf (tVal (eOp2 leA (eOp2 addD (eArg lenA (aCons (eVar 4) aNil)) (eArg lenA (aCons (eVar 6) aNil))) (eVar 2))) (sExpr (eCallM m_put_to 0 3 (aHoleQ 3 (aCons (eOp2 addD (eVar 4) (eVar 6)) (aCons (eCall m_times (aCons (eVar 5) (aCons (eVar 7) aNil))) aNil))))) sSkip)
abbrev inCut : Rho → Out Fl := (sIf (tVal (eOp2 ltA (eOp2 addD (eArg lenA (aCons (eVar 3) aNil)) (eArg lenA (aCons (eVar 5) aNil))) (eCon (.int 6)))) (sExpr (eCallM m__law_put 0 2 (aHoleQ 2 (aCons (eOp2 addD (eVar 3) (eVar 5)) (aCons (eCall m__law_by (aCons (eVar 4) (aCons (eVar 6) aNil))) aNil))))) sSkip)
section
variable {N M k : Nat}
theorem short_in (S : Small N M) {A B : D} {w : Wd} {q : Rat} (hw : w.length ≤ 5) (hq : Sz 4000 q) {R : SumT} (hR : ∀ r ∈ R, r.1.length ≤ 5 ∧ Sz 4000 r.2 ∧ Bd N M (q * r.2)) {s : SumT} (h : Acc N M k s) (hk : k + R.length ≤ 100000) (y z : Option D) :
    ∃ ρ', forL (gTup 2 (gCons (gName 6) (gCons (gName 7) gNil))) inShort (R.map eTerm.en) [some A, some B, some (.int 5), some (dS s), some (eWord.en w), some (eRat.en q), y, z] = .ok (.nx ρ') ∧ Acc N M (k + R.length) (R.foldl (stIn w q) s) ∧ ∃ y z, ρ' = [some A, some B, some (.int 5), some (dS (R.foldl (stIn w q) s)), some (eWord.en w), some (eRat.en q), y, z] := by
  obtain ⟨ρ', e, k', ha, hl, _, y', z', rfl⟩ := forL_foldr (b := gTup 2 (gCons (gName 6) (gCons (gName 7) gNil))) (g := inShort) (f := eTerm.en) (step := stIn w q)
    (St := fun l s ρ => ∃ k', Acc N M k' s ∧ k' + l.length ≤ k + R.length ∧ (∀ r ∈ l, r ∈ R) ∧ ∃ y z, ρ = [some A, some B, some (.int 5), some (dS s), some (eWord.en w), some (eRat.en q), y, z]) R s _ ⟨k, h, Nat.le_refl _, fun _ z => z, y, z, rfl⟩ (by
    rintro r l s ρ ⟨k', ha, hl, hm, y, z, rfl⟩
    obtain ⟨r1, r2, r3⟩ := hR r (hm r List.mem_cons_self)
    rw [List.length_cons] at hl
    have hk' : k' ≤ 100000 := by omega
    have e1 := times_ok hq r2 (by decide)
    have a1 := addD_w w r.1 (by omega)
    by_cases c : w.length + r.1.length ≤ 5
    · have c' : ((w.length : Nat) : Int) + ((r.1.length : Nat) : Int) ≤ 5 := by omega
      have p1 := put_to_ok (l := s) (w := w ++ r.1) (q := q * r.2) (ha.sz S hk' _) (S.sz r3) (by have := ha.len; omega)
      have st : stIn w q s r = addT s (w ++ r.1) (q * r.2) := if_pos c
      refine ⟨_, [some A, some B, some (.int 5), some (dS (stIn w q s r)), some (eWord.en w), some (eRat.en q), some (eWord.en r.1), some (eRat.en r.2)], rfl, ?_, k' + 1, by rw [st]; exact ha.add S.n0 r3, by omega, fun x hx => hm x (List.mem_cons_of_mem _ hx), _, _, rfl⟩
      rw [st]
      simp (disch := first | assumption | decide | omega) only [inShort, runF, m0, sSeq, sSet, sIf, sRet, sRetN, sExpr, sSkip_ok, sSetA, sSetIx, sFor, sPar, sBind, sAug, eVar, eCon_ok, eOp2, eOp1, eCall, eCallM, eCallT, eTup, eLst, eArg, eIf, tVal, tNotF, tAndF, tOrF, eB, eAndF, eOrF, eNotF, eIxA, eIxO, eCatO, ixA_lst, ixA_tup, ixA_scr, eDNew, eDGet, eDGetO, eDPop, eSortK, eMM, aHoleQ, aHole, aNil_ok, aCons, oNone_ok, oSome, eSlice, eSliceL, iSeqA, iSeq, iRange, iArg, ePeek, tPeek, eOwnM, tYes_ok, bind_ok, bind_exc, bind_stuck, of_some, flatD, SW.gName, List.getD_cons_zero, List.getD_cons_succ, List.set_cons_zero, List.set_cons_succ, List.map_cons, List.map_nil, List.length_cons, List.length_nil, List.cons_append, List.nil_append, List.replicate, Nat.reduceAdd, Nat.reduceSub, addD_int, subD_int, negD_int, repD_int, modD_int, fdivD_int, ltA_int, leA_int, gtA_int, geA_int, eqD_int, neD_int, pow_10_18, pow_10_60, a1, e1, p1, len_w, decide_eq_true c', if_true]
    · have c' : ¬ ((w.length : Nat) : Int) + ((r.1.length : Nat) : Int) ≤ 5 := by omega
      have st : stIn w q s r = s := if_neg c
      refine ⟨_, [some A, some B, some (.int 5), some (dS (stIn w q s r)), some (eWord.en w), some (eRat.en q), some (eWord.en r.1), some (eRat.en r.2)], rfl, ?_, k', by rw [st]; exact ha, by omega, fun x hx => hm x (List.mem_cons_of_mem _ hx), _, _, rfl⟩
      rw [st]
      simp (disch := first | assumption | decide | omega) only [inShort, runF, m0, sSeq, sSet, sIf, sRet, sRetN, sExpr, sSkip_ok, sSetA, sSetIx, sFor, sPar, sBind, sAug, eVar, eCon_ok, eOp2, eOp1, eCall, eCallM, eCallT, eTup, eLst, eArg, eIf, tVal, tNotF, tAndF, tOrF, eB, eAndF, eOrF, eNotF, eIxA, eIxO, eCatO, ixA_lst, ixA_tup, ixA_scr, eDNew, eDGet, eDGetO, eDPop, eSortK, eMM, aHoleQ, aHole, aNil_ok, aCons, oNone_ok, oSome, eSlice, eSliceL, iSeqA, iSeq, iRange, iArg, ePeek, tPeek, eOwnM, tYes_ok, bind_ok, bind_exc, bind_stuck, of_some, flatD, SW.gName, List.getD_cons_zero, List.getD_cons_succ, List.set_cons_zero, List.set_cons_succ, List.map_cons, List.map_nil, List.length_cons, List.length_nil, List.cons_append, List.nil_append, List.replicate, Nat.reduceAdd, Nat.reduceSub, addD_int, subD_int, negD_int, repD_int, modD_int, fdivD_int, ltA_int, leA_int, gtA_int, geA_int, eqD_int, neD_int, pow_10_18, pow_10_60, len_w, decide_eq_false c', Bool.false_eq_true, if_false])
  have hl : k' ≤ k + R.length := hl
  exact ⟨_, e, ⟨ha.good, fun v => (ha.bd v).mono (Nat.mul_le_mul_right _ hl), Nat.le_trans ha.len hl⟩, _, _, rfl⟩
theorem cut_in (S : Small N M) {A B : D} {w : Wd} {q : Rat} (hw : w.length ≤ 5) (hq : Sz 4000 q) {R : SumT} (hR : ∀ r ∈ R, r.1.length ≤ 5 ∧ Sz 4000 r.2 ∧ Bd N M (q * r.2)) {s : SumT} (h : Acc N M k s) (hk : k + R.length ≤ 100000) (y z : Option D) :
    ∃ ρ', forL (gTup 2 (gCons (gName 5) (gCons (gName 6) gNil))) inCut (R.map eTerm.en) [some A, some B, some (dS s), some (eWord.en w), some (eRat.en q), y, z] = .ok (.nx ρ') ∧ Acc N M (k + R.length) (R.foldl (stIn w q) s) ∧ ∃ y z, ρ' = [some A, some B, some (dS (R.foldl (stIn w q) s)), some (eWord.en w), some (eRat.en q), y, z] := by
  obtain ⟨ρ', e, k', ha, hl, _, y', z', rfl⟩ := forL_foldr (b := gTup 2 (gCons (gName 5) (gCons (gName 6) gNil))) (g := inCut) (f := eTerm.en) (step := stIn w q)
    (St := fun l s ρ => ∃ k', Acc N M k' s ∧ k' + l.length ≤ k + R.length ∧ (∀ r ∈ l, r ∈ R) ∧ ∃ y z, ρ = [some A, some B, some (dS s), some (eWord.en w), some (eRat.en q), y, z]) R s _ ⟨k, h, Nat.le_refl _, fun _ z => z, y, z, rfl⟩ (by
    rintro r l s ρ ⟨k', ha, hl, hm, y, z, rfl⟩
    obtain ⟨r1, r2, r3⟩ := hR r (hm r List.mem_cons_self)
    rw [List.length_cons] at hl
    have hk' : k' ≤ 100000 := by omega
    have e1 := law_by_ok hq r2 (by decide)
    have a1 := addD_w w r.1 (by omega)
    by_cases c : w.length + r.1.length ≤ 5
    · have c' : ((w.length : Nat) : Int) + ((r.1.length : Nat) : Int) < 6 := by omega
      have p1 := law_put_ok (l := s) (w := w ++ r.1) (q := q * r.2) (ha.sz S hk' _) (S.sz r3) (by have := ha.len; omega)
      have st : stIn w q s r = addT s (w ++ r.1) (q * r.2) := if_pos c
      refine ⟨_, [some A, some B, some (dS (stIn w q s r)), some (eWord.en w), some (eRat.en q), some (eWord.en r.1), some (eRat.en r.2)], rfl, ?_, k' + 1, by rw [st]; exact ha.add S.n0 r3, by omega, fun x hx => hm x (List.mem_cons_of_mem _ hx), _, _, rfl⟩
      rw [st]
      simp (disch := first | assumption | decide | omega) only [inCut, runF, m0, sSeq, sSet, sIf, sRet, sRetN, sExpr, sSkip_ok, sSetA, sSetIx, sFor, sPar, sBind, sAug, eVar, eCon_ok, eOp2, eOp1, eCall, eCallM, eCallT, eTup, eLst, eArg, eIf, tVal, tNotF, tAndF, tOrF, eB, eAndF, eOrF, eNotF, eIxA, eIxO, eCatO, ixA_lst, ixA_tup, ixA_scr, eDNew, eDGet, eDGetO, eDPop, eSortK, eMM, aHoleQ, aHole, aNil_ok, aCons, oNone_ok, oSome, eSlice, eSliceL, iSeqA, iSeq, iRange, iArg, ePeek, tPeek, eOwnM, tYes_ok, bind_ok, bind_exc, bind_stuck, of_some, flatD, SW.gName, List.getD_cons_zero, List.getD_cons_succ, List.set_cons_zero, List.set_cons_succ, List.map_cons, List.map_nil, List.length_cons, List.length_nil, List.cons_append, List.nil_append, List.replicate, Nat.reduceAdd, Nat.reduceSub, addD_int, subD_int, negD_int, repD_int, modD_int, fdivD_int, ltA_int, leA_int, gtA_int, geA_int, eqD_int, neD_int, pow_10_18, pow_10_60, a1, e1, p1, len_w, decide_eq_true c', if_true]
    · have c' : ¬ ((w.length : Nat) : Int) + ((r.1.length : Nat) : Int) < 6 := by omega
      have st : stIn w q s r = s := if_neg c
      refine ⟨_, [some A, some B, some (dS (stIn w q s r)), some (eWord.en w), some (eRat.en q), some (eWord.en r.1), some (eRat.en r.2)], rfl, ?_, k', by rw [st]; exact ha, by omega, fun x hx => hm x (List.mem_cons_of_mem _ hx), _, _, rfl⟩
      rw [st]
      simp (disch := first | assumption | decide | omega) only [inCut, runF, m0, sSeq, sSet, sIf, sRet, sRetN, sExpr, sSkip_ok, sSetA, sSetIx, sFor, sPar, sBind, sAug, eVar, eCon_ok, eOp2, eOp1, eCall, eCallM, eCallT, eTup, eLst, eArg, eIf, tVal, tNotF, tAndF, tOrF, eB, eAndF, eOrF, eNotF, eIxA, eIxO, eCatO, ixA_lst, ixA_tup, ixA_scr, eDNew, eDGet, eDGetO, eDPop, eSortK, eMM, aHoleQ, aHole, aNil_ok, aCons, oNone_ok, oSome, eSlice, eSliceL, iSeqA, iSeq, iRange, iArg, ePeek, tPeek, eOwnM, tYes_ok, bind_ok, bind_exc, bind_stuck, of_some, flatD, SW.gName, List.getD_cons_zero, List.getD_cons_succ, List.set_cons_zero, List.set_cons_succ, List.map_cons, List.map_nil, List.length_cons, List.length_nil, List.cons_append, List.nil_append, List.replicate, Nat.reduceAdd, Nat.reduceSub, addD_int, subD_int, negD_int, repD_int, modD_int, fdivD_int, ltA_int, leA_int, gtA_int, geA_int, eqD_int, neD_int, pow_10_18, pow_10_60, len_w, decide_eq_false c', Bool.false_eq_true, if_false])
  have hl : k' ≤ k + R.length := hl
  exact ⟨_, e, ⟨ha.good, fun v => (ha.bd v).mono (Nat.mul_le_mul_right _ hl), Nat.le_trans ha.len hl⟩, _, _, rfl⟩
end
/-- what two sums have so that their join may be worked out -/
structure TwoOk (N M : Nat) (A B : SumT) : Prop where
  a : ∀ p ∈ A, p.1.length ≤ 5 ∧ Sz 4000 p.2
  b : ∀ r ∈ B, r.1.length ≤ 5 ∧ Sz 4000 r.2
  q : ∀ p ∈ A, ∀ r ∈ B, Bd N M (p.2 * r.2)
  n : A.length * B.length ≤ 100000
theorem joined_short_ok {N M : Nat} (S : Small N M) {A B : SumT} (h : TwoOk N M A B) : m_joined_short [eSum.en A, eSum.en B, .int 5] = .ok (eSum.en (toldT (cutT A B)), .non) := by
  obtain ⟨ρ', e, k', ha, hl, _, x1, x2, x3, x4, rfl⟩ := forL_foldr (b := gTup 2 (gCons (gName 4) (gCons (gName 5) gNil))) (g := (sFor (iSeqA (eVar 1)) (gTup 2 (gCons (gName 6) (gCons (gName 7) gNil))) (sIf (tVal (eOp2 leA (eOp2 addD (eArg lenA (aCons (eVar 4) aNil)) (eArg lenA (aCons (eVar 6) aNil))) (eVar 2))) (sExpr (eCallM m_put_to 0 3 (aHoleQ 3 (aCons (eOp2 addD (eVar 4) (eVar 6)) (aCons (eCall m_times (aCons (eVar 5) (aCons (eVar 7) aNil))) aNil))))) sSkip))) (f := eTerm.en) (step := fun (s : SumT) (p : Wd × Rat) => B.foldl (stIn p.1 p.2) s)
    (St := fun l s ρ => ∃ k', Acc N M k' s ∧ k' + l.length * B.length = A.length * B.length ∧ (∀ r ∈ l, r ∈ A) ∧ ∃ x1 x2 x3 x4, ρ = [some (eSum.en A), some (eSum.en B), some (.int 5), some (dS s), x1, x2, x3, x4]) A [] [some (eSum.en A), some (eSum.en B), some (.int 5), some (dS []), none, none, none, none] ⟨0, acc_nil N M, by omega, fun _ z => z, _, _, _, _, rfl⟩ (by
    rintro p l s ρ ⟨k', ha, hl, hm, x1, x2, x3, x4, rfl⟩
    have hp := hm p List.mem_cons_self
    have hn := h.n
    rw [List.length_cons, Nat.add_mul, Nat.one_mul] at hl
    obtain ⟨ρ2, e2, h2, y, z, rfl⟩ := short_in S (A := eSum.en A) (B := eSum.en B) (h.a p hp).1 (h.a p hp).2 (fun r hr => ⟨(h.b r hr).1, (h.b r hr).2, h.q p hp r hr⟩) ha (by omega) x3 x4
    refine ⟨[some (eSum.en A), some (eSum.en B), some (.int 5), some (dS s), some (eWord.en p.1), some (eRat.en p.2), x3, x4], [some (eSum.en A), some (eSum.en B), some (.int 5), some (dS (B.foldl (stIn p.1 p.2) s)), some (eWord.en p.1), some (eRat.en p.2), y, z], rfl, ?_, k' + B.length, h2, by omega, fun x hx => hm x (List.mem_cons_of_mem _ hx), _, _, _, _, rfl⟩
    have it : itemsA (eSum.en B) = some (B.map eTerm.en) := rfl
    unfold inShort at e2
    simp (disch := first | assumption | decide | omega) only [runF, m0, sSeq, sSet, sIf, sRet, sRetN, sExpr, sSkip_ok, sSetA, sSetIx, sFor, sPar, sBind, sAug, eVar, eCon_ok, eOp2, eOp1, eCall, eCallM, eCallT, eTup, eLst, eArg, eIf, tVal, tNotF, tAndF, tOrF, eB, eAndF, eOrF, eNotF, eIxA, eIxO, eCatO, ixA_lst, ixA_tup, ixA_scr, eDNew, eDGet, eDGetO, eDPop, eSortK, eMM, aHoleQ, aHole, aNil_ok, aCons, oNone_ok, oSome, eSlice, eSliceL, iSeqA, iSeq, iRange, iArg, ePeek, tPeek, eOwnM, tYes_ok, bind_ok, bind_exc, bind_stuck, of_some, flatD, SW.gName, List.getD_cons_zero, List.getD_cons_succ, List.set_cons_zero, List.set_cons_succ, List.map_cons, List.map_nil, List.length_cons, List.length_nil, List.cons_append, List.nil_append, List.replicate, Nat.reduceAdd, Nat.reduceSub, addD_int, subD_int, negD_int, repD_int, modD_int, fdivD_int, ltA_int, leA_int, gtA_int, geA_int, eqD_int, neD_int, pow_10_18, pow_10_60, it, e2])
  have it : itemsA (eSum.en A) = some (A.map eTerm.en) := rfl
  have en : D.dct [] = dS [] := rfl
  rw [fold_out] at e
  have e4 := told_sum_ok (cutT_good A B)
  have tk := tok_sum (toldT (cutT A B))
  unfold cutT at e4 tk
  unfold cutT
  generalize toldT (addAll (cutJ A B) []) = T at *
  have e4 : m_told_sum [dS (addAll (cutJ A B) [])] = .ok (.lst (T.map eTerm.en), .non) := e4
  show _ = (Out.ok (D.lst (T.map eTerm.en), D.non) : Out (D × D))
  simp (disch := first | assumption | decide | omega) only [ePeekL, tk, if_true, m_joined_short, b_joined_short, runF, m0, sSeq, sSet, sIf, sRet, sRetN, sExpr, sSkip_ok, sSetA, sSetIx, sFor, sPar, sBind, sAug, eVar, eCon_ok, eOp2, eOp1, eCall, eCallM, eCallT, eTup, eLst, eArg, eIf, tVal, tNotF, tAndF, tOrF, eB, eAndF, eOrF, eNotF, eIxA, eIxO, eCatO, ixA_lst, ixA_tup, ixA_scr, eDNew, eDGet, eDGetO, eDPop, eSortK, eMM, aHoleQ, aHole, aNil_ok, aCons, oNone_ok, oSome, eSlice, eSliceL, iSeqA, iSeq, iRange, iArg, ePeek, tPeek, eOwnM, tYes_ok, bind_ok, bind_exc, bind_stuck, of_some, flatD, SW.gName, List.getD_cons_zero, List.getD_cons_succ, List.set_cons_zero, List.set_cons_succ, List.map_cons, List.map_nil, List.length_cons, List.length_nil, List.cons_append, List.nil_append, List.replicate, Nat.reduceAdd, Nat.reduceSub, addD_int, subD_int, negD_int, repD_int, modD_int, fdivD_int, ltA_int, leA_int, gtA_int, geA_int, eqD_int, neD_int, pow_10_18, pow_10_60, en, it, e, e4]
theorem law_joined_ok {N M : Nat} (S : Small N M) {A B : SumT} (h : TwoOk N M A B) : m__law_joined [eSum.en A, eSum.en B] = .ok (eSum.en (toldT (cutT A B)), .non) := by
  obtain ⟨ρ', e, k', ha, hl, _, x1, x2, x3, x4, rfl⟩ := forL_foldr (b := gTup 2 (gCons (gName 3) (gCons (gName 4) gNil))) (g := (sFor (iSeqA (eVar 1)) (gTup 2 (gCons (gName 5) (gCons (gName 6) gNil))) (sIf (tVal (eOp2 ltA (eOp2 addD (eArg lenA (aCons (eVar 3) aNil)) (eArg lenA (aCons (eVar 5) aNil))) (eCon (.int 6)))) (sExpr (eCallM m__law_put 0 2 (aHoleQ 2 (aCons (eOp2 addD (eVar 3) (eVar 5)) (aCons (eCall m__law_by (aCons (eVar 4) (aCons (eVar 6) aNil))) aNil))))) sSkip))) (f := eTerm.en) (step := fun (s : SumT) (p : Wd × Rat) => B.foldl (stIn p.1 p.2) s)
    (St := fun l s ρ => ∃ k', Acc N M k' s ∧ k' + l.length * B.length = A.length * B.length ∧ (∀ r ∈ l, r ∈ A) ∧ ∃ x1 x2 x3 x4, ρ = [some (eSum.en A), some (eSum.en B), some (dS s), x1, x2, x3, x4]) A [] [some (eSum.en A), some (eSum.en B), some (dS []), none, none, none, none] ⟨0, acc_nil N M, by omega, fun _ z => z, _, _, _, _, rfl⟩ (by
    rintro p l s ρ ⟨k', ha, hl, hm, x1, x2, x3, x4, rfl⟩
    have hp := hm p List.mem_cons_self
    have hn := h.n
    rw [List.length_cons, Nat.add_mul, Nat.one_mul] at hl
    obtain ⟨ρ2, e2, h2, y, z, rfl⟩ := cut_in S (A := eSum.en A) (B := eSum.en B) (h.a p hp).1 (h.a p hp).2 (fun r hr => ⟨(h.b r hr).1, (h.b r hr).2, h.q p hp r hr⟩) ha (by omega) x3 x4
    refine ⟨[some (eSum.en A), some (eSum.en B), some (dS s), some (eWord.en p.1), some (eRat.en p.2), x3, x4], [some (eSum.en A), some (eSum.en B), some (dS (B.foldl (stIn p.1 p.2) s)), some (eWord.en p.1), some (eRat.en p.2), y, z], rfl, ?_, k' + B.length, h2, by omega, fun x hx => hm x (List.mem_cons_of_mem _ hx), _, _, _, _, rfl⟩
    have it : itemsA (eSum.en B) = some (B.map eTerm.en) := rfl
    unfold inCut at e2
    simp (disch := first | assumption | decide | omega) only [runF, m0, sSeq, sSet, sIf, sRet, sRetN, sExpr, sSkip_ok, sSetA, sSetIx, sFor, sPar, sBind, sAug, eVar, eCon_ok, eOp2, eOp1, eCall, eCallM, eCallT, eTup, eLst, eArg, eIf, tVal, tNotF, tAndF, tOrF, eB, eAndF, eOrF, eNotF, eIxA, eIxO, eCatO, ixA_lst, ixA_tup, ixA_scr, eDNew, eDGet, eDGetO, eDPop, eSortK, eMM, aHoleQ, aHole, aNil_ok, aCons, oNone_ok, oSome, eSlice, eSliceL, iSeqA, iSeq, iRange, iArg, ePeek, tPeek, eOwnM, tYes_ok, bind_ok, bind_exc, bind_stuck, of_some, flatD, SW.gName, List.getD_cons_zero, List.getD_cons_succ, List.set_cons_zero, List.set_cons_succ, List.map_cons, List.map_nil, List.length_cons, List.length_nil, List.cons_append, List.nil_append, List.replicate, Nat.reduceAdd, Nat.reduceSub, addD_int, subD_int, negD_int, repD_int, modD_int, fdivD_int, ltA_int, leA_int, gtA_int, geA_int, eqD_int, neD_int, pow_10_18, pow_10_60, it, e2])
  have it : itemsA (eSum.en A) = some (A.map eTerm.en) := rfl
  have en : D.dct [] = dS [] := rfl
  rw [fold_out] at e
  have e4 := law_told_ok (cutT_good A B)
  have tk := tok_sum (toldT (cutT A B))
  unfold cutT at e4 tk
  unfold cutT
  generalize toldT (addAll (cutJ A B) []) = T at *
  have e4 : m__law_told [dS (addAll (cutJ A B) [])] = .ok (.lst (T.map eTerm.en), .non) := e4
  show _ = (Out.ok (D.lst (T.map eTerm.en), D.non) : Out (D × D))
  simp (disch := first | assumption | decide | omega) only [ePeekL, tk, if_true, m__law_joined, b__law_joined, runF, m0, sSeq, sSet, sIf, sRet, sRetN, sExpr, sSkip_ok, sSetA, sSetIx, sFor, sPar, sBind, sAug, eVar, eCon_ok, eOp2, eOp1, eCall, eCallM, eCallT, eTup, eLst, eArg, eIf, tVal, tNotF, tAndF, tOrF, eB, eAndF, eOrF, eNotF, eIxA, eIxO, eCatO, ixA_lst, ixA_tup, ixA_scr, eDNew, eDGet, eDGetO, eDPop, eSortK, eMM, aHoleQ, aHole, aNil_ok, aCons, oNone_ok, oSome, eSlice, eSliceL, iSeqA, iSeq, iRange, iArg, ePeek, tPeek, eOwnM, tYes_ok, bind_ok, bind_exc, bind_stuck, of_some, flatD, SW.gName, List.getD_cons_zero, List.getD_cons_succ, List.set_cons_zero, List.set_cons_succ, List.map_cons, List.map_nil, List.length_cons, List.length_nil, List.cons_append, List.nil_append, List.replicate, Nat.reduceAdd, Nat.reduceSub, addD_int, subD_int, negD_int, repD_int, modD_int, fdivD_int, ltA_int, leA_int, gtA_int, geA_int, eqD_int, neD_int, pow_10_18, pow_10_60, en, it, e, e4]
theorem cut_joined_ok {c N M : Nat} (S : Small N M) {A B : SumT} (c1 : 1 ≤ c) (c4 : c ≤ 4) (hA : SumOk c A) (hB : SumOk c B) (h : TwoOk N M A B) : m_cut_joined [.int c, eSum.en A, eSum.en B] = .ok (eSum.en (toldT (cutT A B)), .non) := by
  have e1 := check_count_ok c1 c4
  have e2 : m_check_sum [.int c, eSum.en A] = .ok (.non, .non) := check_sum_ok hA
  have e3 : m_check_sum [.int c, eSum.en B] = .ok (.non, .non) := check_sum_ok hB
  have e4 := joined_short_ok S h
  have km : k_MOST = .int 5 := rfl
  simp (disch := first | assumption | decide | omega) only [m_cut_joined, b_cut_joined, runF, m0, sSeq, sSet, sIf, sRet, sRetN, sExpr, sSkip_ok, sSetA, sSetIx, sFor, sPar, sBind, sAug, eVar, eCon_ok, eOp2, eOp1, eCall, eCallM, eCallT, eTup, eLst, eArg, eIf, tVal, tNotF, tAndF, tOrF, eB, eAndF, eOrF, eNotF, eIxA, eIxO, eCatO, ixA_lst, ixA_tup, ixA_scr, eDNew, eDGet, eDGetO, eDPop, eSortK, eMM, aHoleQ, aHole, aNil_ok, aCons, oNone_ok, oSome, eSlice, eSliceL, iSeqA, iSeq, iRange, iArg, ePeek, tPeek, eOwnM, tYes_ok, bind_ok, bind_exc, bind_stuck, of_some, flatD, SW.gName, List.getD_cons_zero, List.getD_cons_succ, List.set_cons_zero, List.set_cons_succ, List.map_cons, List.map_nil, List.length_cons, List.length_nil, List.cons_append, List.nil_append, List.replicate, Nat.reduceAdd, Nat.reduceSub, addD_int, subD_int, negD_int, repD_int, modD_int, fdivD_int, ltA_int, leA_int, gtA_int, geA_int, eqD_int, neD_int, pow_10_18, pow_10_60, e1, e2, e3, km, e4]
theorem two_ok {c k1 k2 n1 n2 N1 N2 M1 M2 : Nat} {A B : SumT} (hA : SumB c k1 n1 N1 M1 A) (hB : SumB c k2 n2 N2 M2 B) (S1 : Small N1 M1) (S2 : Small N2 M2) (h1 : k1 ≤ 5) (h2 : k2 ≤ 5) (hn : n1 * n2 ≤ 100000) : TwoOk (N1 * N2) (M1 * M2) A B :=
  ⟨fun p hp => ⟨Nat.le_trans (hA.ln p hp) h1, S1.sz (hA.bd p hp)⟩, fun r hr => ⟨Nat.le_trans (hB.ln r hr) h2, S2.sz (hB.bd r hr)⟩, fun p hp r hr => (hA.bd p hp).mul (hB.bd r hr), Nat.le_trans (Nat.mul_le_mul hA.sz hB.sz) hn⟩
theorem cut_mem {A B : SumT} {t : Wd × Rat} (h : t ∈ cutJ A B) : t.1.length ≤ 5 ∧ ∃ p ∈ A, ∃ r ∈ B, t = (p.1 ++ r.1, p.2 * r.2) := by
  obtain ⟨h1, h2⟩ := List.mem_filter.mp h
  obtain ⟨p, hp, h1⟩ := List.mem_flatMap.mp h1
  obtain ⟨r, hr, e⟩ := List.mem_map.mp h1
  exact ⟨of_decide_eq_true h2, p, hp, r, hr, e.symm⟩
theorem cut_dic {c k1 k2 n1 n2 N1 N2 M1 M2 : Nat} {A B : SumT} (z1 : N1 ≠ 0) (z2 : N2 ≠ 0) (hA : SumB c k1 n1 N1 M1 A) (hB : SumB c k2 n2 N2 M2 B) : DicB c 5 (n1 * n2) (N1 * N2) (n1 * n2 * (M1 * M2)) (cutT A B) := by
  have h := DicB.of_all (c := c) (k := 5) (N := N1 * N2) (M := M1 * M2) (Nat.mul_ne_zero z1 z2) (ts := cutJ A B) (fun t ht => by
    obtain ⟨l5, p, hp, r, hr, rfl⟩ := cut_mem ht
    refine ⟨fun x hx => ?_, l5⟩
    rcases List.mem_append.mp hx with hx | hx
    · exact hA.lt p hp x hx
    · exact hB.lt r hr x hx) (fun t ht => by
    obtain ⟨l5, p, hp, r, hr, rfl⟩ := cut_mem ht
    exact (hA.bd p hp).mul (hB.bd r hr))
  have hl : (cutJ A B).length ≤ n1 * n2 := by
    refine Nat.le_trans (List.length_filter_le _ _) ?_
    rw [joinL_len]
    exact Nat.mul_le_mul hA.sz hB.sz
  exact ⟨h.gd, h.lt, h.ln, fun p hp => (h.bd p hp).mono (Nat.mul_le_mul_right _ hl), Nat.le_trans h.sz hl⟩
theorem sh_dic {c k n N M a b : Nat} {A : SumT} (c4 : c ≤ 10) (k5 : k ≤ 5) (n0 : N ≠ 0) (hA : DicB c k n N M A) (h1 : M * N < 10 ^ a) (h2 : N < 10 ^ b) : ∀ p ∈ toldT A, ShT a b p := fun p hp => by
  have h := hA.told
  have q := h.bd p hp
  refine ⟨Nat.le_trans (h.ln p hp) k5, fun x hx => ⟨(h.lt p hp x hx).1, by have := (h.lt p hp x hx).2; omega⟩, ?_, ?_⟩
  · refine Nat.lt_of_le_of_lt (Nat.le_trans q.n (Nat.mul_le_mul_left _ ?_)) h1
    exact Nat.le_of_dvd (Nat.pos_of_ne_zero n0) q.d
  · exact Nat.lt_of_le_of_lt (Nat.le_of_dvd (Nat.pos_of_ne_zero n0) q.d) h2
abbrev bTurn : Rho → Out Fl := (sSeq (sSet 8 (eOp2 ixA (eLst (aCons (eCall m__law_joined (aCons (eVar 4) (aCons (eVar 5) aNil))) (aCons (eCall m__law_joined (aCons (eVar 5) (aCons (eVar 4) aNil))) aNil))) (eOp2 modD (eVar 7) (eCon (.int 2))))) (sSeq (sSet 9 (eCall m_cut_joined (aCons (eVar 3) (aCons (eOp2 ixA (eVar 6) (eOp2 modD (eVar 7) (eCon (.int 2)))) (aCons (eOp2 ixA (eVar 6) (eOp2 subD (eCon (.int 1)) (eOp2 modD (eVar 7) (eCon (.int 2))))) aNil))))) (sSeq (sIf (tPeek (tOrF (tVal (eOp2 neS (eArg strD (aCons (eVar 9) aNil)) (eArg strD (aCons (eVar 8) aNil)))) (tVal (eOp2 neD (eVar 6) (eLst (aCons (eVar 4) (aCons (eVar 5) aNil))))))) (sRet (eCon (.bl false))) sSkip) (sExpr (eOwnM uClear 9 aNil)))))
theorem turn_ok {c : Nat} {A B : SumT} (c1 : 1 ≤ c) (c4 : c ≤ 4) (hA : SumB c 5 4 2520 1000 A) (hB : SumB c 3 4 2520 1000 B) {t : Int} (ht : t = 0 ∨ t = 1 ∨ t = 2) (y0 y1 y2 y8 y9 : Option D) :
    ∃ z8 z9, bTurn [y0, y1, y2, some (.int c), some (eSum.en A), some (eSum.en B), some (.lst [eSum.en A, eSum.en B]), some (.int t), y8, y9] = .ok (.nx [y0, y1, y2, some (.int c), some (eSum.en A), some (eSum.en B), some (.lst [eSum.en A, eSum.en B]), some (.int t), z8, z9]) := by
  have oA := hA.ok (by decide)
  have oB := hB.ok (by decide)
  have w1 := two_ok hA hB smA smA (by decide) (by decide) (by decide)
  have w2 := two_ok hB hA smA smA (by decide) (by decide) (by decide)
  have l1 := law_joined_ok smAA w1
  have l2 := law_joined_ok smAA w2
  have p1 := cut_joined_ok smAA c1 c4 oA oB w1
  have p2 := cut_joined_ok smAA c1 c4 oB oA w2
  have d1 := cut_dic (by decide) (by decide) hA hB
  have d2 := cut_dic (by decide) (by decide) hB hA
  have s1 : strD [eSum.en (toldT (cutT A B))] = some (.str (textS (toldT (cutT A B)))) := str_sum (a := 20) (b := 8) (by decide) (by decide) (by decide) (by decide) (sh_dic (by omega) (by decide) (by decide) d1 (by decide) (by decide)) (by have := d1.told.sz; omega)
  have s2 : strD [eSum.en (toldT (cutT B A))] = some (.str (textS (toldT (cutT B A)))) := str_sum (a := 20) (b := 8) (by decide) (by decide) (by decide) (by decide) (sh_dic (by omega) (by decide) (by decide) d2 (by decide) (by decide)) (by have := d2.told.sz; omega)
  have n1 := neS_str (textS (toldT (cutT A B)))
  have n2 := neS_str (textS (toldT (cutT B A)))
  have n3 := neD_two A B
  have i0 : ∀ a b : D, ixA (.lst [a, b]) (.int 0) = some a := fun a b => rfl
  have i1 : ∀ a b : D, ixA (.lst [a, b]) (.int 1) = some b := fun a b => rfl
  have m0 : modD (.int 0) (.int 2) = some (.int 0) := rfl
  have m1 : modD (.int 1) (.int 2) = some (.int 1) := rfl
  have m2 : modD (.int 2) (.int 2) = some (.int 0) := rfl
  have u0 : subD (.int 1) (.int 0) = some (.int 1) := rfl
  have u1 : subD (.int 1) (.int 1) = some (.int 0) := rfl
  generalize toldT (cutT A B) = T1 at *
  generalize toldT (cutT B A) = T2 at *
  have c1 : uClear (T1.map eTerm.en) [] = some (.non, []) := rfl
  have c2 : uClear (T2.map eTerm.en) [] = some (.non, []) := rfl
  have p1 : m_cut_joined [.int c, eSum.en A, eSum.en B] = .ok (.lst (T1.map eTerm.en), .non) := p1
  have p2 : m_cut_joined [.int c, eSum.en B, eSum.en A] = .ok (.lst (T2.map eTerm.en), .non) := p2
  have s1' : strD [.lst (T1.map eTerm.en)] = some (.str (textS T1)) := s1
  have s2' : strD [.lst (T2.map eTerm.en)] = some (.str (textS T2)) := s2
  rcases ht with rfl | rfl | rfl
  · refine ⟨some (eSum.en T1), some (.lst []), ?_⟩
    simp (disch := first | assumption | decide | omega) only [bTurn, runF, m0, sSeq, sSet, sIf, sRet, sRetN, sExpr, sSkip_ok, sSetA, sSetIx, sFor, sPar, sBind, sAug, eVar, eCon_ok, eOp2, eOp1, eCall, eCallM, eCallT, eTup, eLst, eArg, eIf, tVal, tNotF, tAndF, tOrF, eB, eAndF, eOrF, eNotF, eIxA, eIxO, eCatO, ixA_lst, ixA_tup, ixA_scr, eDNew, eDGet, eDGetO, eDPop, eSortK, eMM, aHoleQ, aHole, aNil_ok, aCons, oNone_ok, oSome, eSlice, eSliceL, iSeqA, iSeq, iRange, iArg, ePeek, tPeek, eOwnM, tYes_ok, bind_ok, bind_exc, bind_stuck, of_some, flatD, SW.gName, List.getD_cons_zero, List.getD_cons_succ, List.set_cons_zero, List.set_cons_succ, List.map_cons, List.map_nil, List.length_cons, List.length_nil, List.cons_append, List.nil_append, List.replicate, Nat.reduceAdd, Nat.reduceSub, addD_int, subD_int, negD_int, repD_int, modD_int, fdivD_int, ltA_int, leA_int, gtA_int, geA_int, eqD_int, neD_int, pow_10_18, pow_10_60, l1, l2, m0, l20, l21, i0, i1, u0, p1, s1, s1', n1, n3, c1, Bool.false_eq_true, if_false]
  · refine ⟨some (eSum.en T2), some (.lst []), ?_⟩
    simp (disch := first | assumption | decide | omega) only [bTurn, runF, m0, sSeq, sSet, sIf, sRet, sRetN, sExpr, sSkip_ok, sSetA, sSetIx, sFor, sPar, sBind, sAug, eVar, eCon_ok, eOp2, eOp1, eCall, eCallM, eCallT, eTup, eLst, eArg, eIf, tVal, tNotF, tAndF, tOrF, eB, eAndF, eOrF, eNotF, eIxA, eIxO, eCatO, ixA_lst, ixA_tup, ixA_scr, eDNew, eDGet, eDGetO, eDPop, eSortK, eMM, aHoleQ, aHole, aNil_ok, aCons, oNone_ok, oSome, eSlice, eSliceL, iSeqA, iSeq, iRange, iArg, ePeek, tPeek, eOwnM, tYes_ok, bind_ok, bind_exc, bind_stuck, of_some, flatD, SW.gName, List.getD_cons_zero, List.getD_cons_succ, List.set_cons_zero, List.set_cons_succ, List.map_cons, List.map_nil, List.length_cons, List.length_nil, List.cons_append, List.nil_append, List.replicate, Nat.reduceAdd, Nat.reduceSub, addD_int, subD_int, negD_int, repD_int, modD_int, fdivD_int, ltA_int, leA_int, gtA_int, geA_int, eqD_int, neD_int, pow_10_18, pow_10_60, l1, l2, m1, l20, l21, i0, i1, u1, p2, s2, s2', n2, n3, c2, Bool.false_eq_true, if_false]
  · refine ⟨some (eSum.en T1), some (.lst []), ?_⟩
    simp (disch := first | assumption | decide | omega) only [bTurn, runF, m0, sSeq, sSet, sIf, sRet, sRetN, sExpr, sSkip_ok, sSetA, sSetIx, sFor, sPar, sBind, sAug, eVar, eCon_ok, eOp2, eOp1, eCall, eCallM, eCallT, eTup, eLst, eArg, eIf, tVal, tNotF, tAndF, tOrF, eB, eAndF, eOrF, eNotF, eIxA, eIxO, eCatO, ixA_lst, ixA_tup, ixA_scr, eDNew, eDGet, eDGetO, eDPop, eSortK, eMM, aHoleQ, aHole, aNil_ok, aCons, oNone_ok, oSome, eSlice, eSliceL, iSeqA, iSeq, iRange, iArg, ePeek, tPeek, eOwnM, tYes_ok, bind_ok, bind_exc, bind_stuck, of_some, flatD, SW.gName, List.getD_cons_zero, List.getD_cons_succ, List.set_cons_zero, List.set_cons_succ, List.map_cons, List.map_nil, List.length_cons, List.length_nil, List.cons_append, List.nil_append, List.replicate, Nat.reduceAdd, Nat.reduceSub, addD_int, subD_int, negD_int, repD_int, modD_int, fdivD_int, ltA_int, leA_int, gtA_int, geA_int, eqD_int, neD_int, pow_10_18, pow_10_60, l1, l2, m2, l20, l21, i0, i1, u0, p1, s1, s1', n1, n3, c1, Bool.false_eq_true, if_false]
theorem turns_ok {c : Nat} {A B : SumT} (c1 : 1 ≤ c) (c4 : c ≤ 4) (hA : SumB c 5 4 2520 1000 A) (hB : SumB c 3 4 2520 1000 B) (y0 y1 y2 y7 y8 y9 : Option D) :
    ∃ z7 z8 z9, forL (gName 7) bTurn [.int 0, .int 1, .int 2] [y0, y1, y2, some (.int c), some (eSum.en A), some (eSum.en B), some (.lst [eSum.en A, eSum.en B]), y7, y8, y9] = .ok (.nx [y0, y1, y2, some (.int c), some (eSum.en A), some (eSum.en B), some (.lst [eSum.en A, eSum.en B]), z7, z8, z9]) := by
  obtain ⟨ρ', e, z7, z8, z9, rfl⟩ := forL_fold (b := gName 7) (g := bTurn) (f := D.int) (σ := Unit) (step := fun s _ => s) (St := fun _ ρ => ∃ z7 z8 z9, ρ = [y0, y1, y2, some (.int c), some (eSum.en A), some (eSum.en B), some (.lst [eSum.en A, eSum.en B]), z7, z8, z9]) [0, 1, 2] () _ ⟨y7, y8, y9, rfl⟩ (by
    rintro t ht _ ρ ⟨z7, z8, z9, rfl⟩
    obtain ⟨w8, w9, e⟩ := turn_ok c1 c4 hA hB (t := t) (by simpa using ht) y0 y1 y2 z8 z9
    exact ⟨_, _, rfl, e, _, _, _, rfl⟩)
  exact ⟨z7, z8, z9, e⟩
abbrev bCell : Rho → Out Fl := (sSeq (sSet 2 (eCall m__law_purse (aCons (eCall m__law_at (aCons (eVar 0) (aCons (eVar 1) aNil))) (aCons (eVar 1) aNil)))) (sSeq (sSet 3 (eOp2 addD (eCon (.int 1)) (eCallM m__law_take 0 2 (aHoleQ 2 (aCons (eCon (.int 4)) aNil))))) (sSeq (sSet 4 (eCall m__law_told (aCons (eCallM m__law_sum 0 2 (aHoleQ 2 (aCons (eVar 3) (aCons (eCon (.int 4)) (aCons (eCon (.int 5)) aNil))))) aNil))) (sSeq (sSet 5 (eCall m__law_told (aCons (eCallM m__law_sum 0 2 (aHoleQ 2 (aCons (eVar 3) (aCons (eCon (.int 4)) (aCons (eCon (.int 3)) aNil))))) aNil))) (sSeq (sSet 6 (eLst (aCons (eArg listD (aCons (eVar 4) aNil)) (aCons (eArg listD (aCons (eVar 5) aNil)) aNil)))) (sFor (iRange (aCons (eCon (.int 3)) aNil)) (gName 7) (sSeq (sSet 8 (eOp2 ixA (eLst (aCons (eCall m__law_joined (aCons (eVar 4) (aCons (eVar 5) aNil))) (aCons (eCall m__law_joined (aCons (eVar 5) (aCons (eVar 4) aNil))) aNil))) (eOp2 modD (eVar 7) (eCon (.int 2))))) (sSeq (sSet 9 (eCall m_cut_joined (aCons (eVar 3) (aCons (eOp2 ixA (eVar 6) (eOp2 modD (eVar 7) (eCon (.int 2)))) (aCons (eOp2 ixA (eVar 6) (eOp2 subD (eCon (.int 1)) (eOp2 modD (eVar 7) (eCon (.int 2))))) aNil))))) (sSeq (sIf (tPeek (tOrF (tVal (eOp2 neS (eArg strD (aCons (eVar 9) aNil)) (eArg strD (aCons (eVar 8) aNil)))) (tVal (eOp2 neD (eVar 6) (eLst (aCons (eVar 4) (aCons (eVar 5) aNil))))))) (sRet (eCon (.bl false))) sSkip) (sExpr (eOwnM uClear 9 aNil)))))))))))
theorem cell_ok (ns : List Int) (k : Nat) (k3 : k < 10) (y2 y3 y4 y5 y6 y7 y8 y9 : Option D) : ∃ z2 z3 z4 z5 z6 z7 z8 z9, bCell [some (.scr ns), some (.int (k : Nat)), y2, y3, y4, y5, y6, y7, y8, y9] = .ok (.nx [some (.scr ns), some (.int (k : Nat)), z2, z3, z4, z5, z6, z7, z8, z9]) := by
  obtain ⟨i, hi⟩ := law_at_ok ns (k : Nat) (by omega)
  obtain ⟨p, e1, hp⟩ := purse_ok i (k : Nat) (by omega) (Int.lt_of_lt_of_le (show ((k : Nat) : Int) < 10 by omega) (by decide))
  obtain ⟨g1, p1, t1, g10, g11, hp1⟩ := take_ok (n := 1000) (many := 4) (Ps.mono (by omega) hp) (by decide) (by decide)
  obtain ⟨c, ec, c1, c4⟩ : ∃ c : Nat, 1 + g1 = ((c : Nat) : Int) ∧ 1 ≤ c ∧ c ≤ 4 := ⟨(1 + g1).toNat, by omega, by omega, by omega⟩
  obtain ⟨A, p2, f1, hA, hp2⟩ := law_sum_ok (n := 500) (k := 5) (many := 4) c1 (by omega) (by decide) (by decide) (Ps.mono (by omega) hp1)
  obtain ⟨B, p3, f2, hB, hp3⟩ := law_sum_ok (n := 100) (k := 3) (many := 4) c1 (by omega) (by decide) (by decide) (Ps.mono (by omega) hp2)
  have f1 : m__law_sum [p1, .int c, .int 4, .int 5] = .ok (dS A, p2) := f1
  have f2 : m__law_sum [p2, .int c, .int 4, .int 3] = .ok (dS B, p3) := f2
  have T1 := law_told_ok hA.gd
  have T2 := law_told_ok hB.gd
  obtain ⟨z7, z8, z9, ee⟩ := turns_ok c1 c4 hA.told hB.told (some (.scr ns)) (some (.int (k : Nat))) (some p3) y7 y8 y9
  have it : rangeD [.int 3] = some [.int 0, .int 1, .int 2] := by
    rw [rangeD1 (by omega) (by omega)]
    rfl
  refine ⟨some p3, some (.int c), some (eSum.en (toldT A)), some (eSum.en (toldT B)), some (.lst [eSum.en (toldT A), eSum.en (toldT B)]), z7, z8, z9, ?_⟩
  unfold bTurn at ee
  simp (disch := first | assumption | decide | omega) only [bCell, runF, m0, sSeq, sSet, sIf, sRet, sRetN, sExpr, sSkip_ok, sSetA, sSetIx, sFor, sPar, sBind, sAug, eVar, eCon_ok, eOp2, eOp1, eCall, eCallM, eCallT, eTup, eLst, eArg, eIf, tVal, tNotF, tAndF, tOrF, eB, eAndF, eOrF, eNotF, eIxA, eIxO, eCatO, ixA_lst, ixA_tup, ixA_scr, eDNew, eDGet, eDGetO, eDPop, eSortK, eMM, aHoleQ, aHole, aNil_ok, aCons, oNone_ok, oSome, eSlice, eSliceL, iSeqA, iSeq, iRange, iArg, ePeek, tPeek, eOwnM, tYes_ok, bind_ok, bind_exc, bind_stuck, of_some, flatD, SW.gName, List.getD_cons_zero, List.getD_cons_succ, List.set_cons_zero, List.set_cons_succ, List.map_cons, List.map_nil, List.length_cons, List.length_nil, List.cons_append, List.nil_append, List.replicate, Nat.reduceAdd, Nat.reduceSub, addD_int, subD_int, negD_int, repD_int, modD_int, fdivD_int, ltA_int, leA_int, gtA_int, geA_int, eqD_int, neD_int, pow_10_18, pow_10_60, Option.getD_some, hi, e1, t1, ec, f1, f2, T1, T2, list_sum, it, ee]
theorem law_true : ∀ ns : List Int, ns.length ≤ 63 → ∃ o, m_law [.scr ns] = .ok (.bl true, o) := by
  intro ns hns
  obtain ⟨n, hn, en⟩ : ∃ n : Nat, n ≤ 3 ∧ maxA [.int 1, .int (if (3 : Int) < ((ns.length : Nat) : Int) then 3 else ((ns.length : Nat) : Int))] = some (.int ((n : Nat) : Int)) := by
    refine ⟨max 1 (min ns.length 3), by omega, ?_⟩
    show some (D.int (if (if (3 : Int) < ((ns.length : Nat) : Int) then 3 else ((ns.length : Nat) : Int)) > 1 then (if (3 : Int) < ((ns.length : Nat) : Int) then 3 else ((ns.length : Nat) : Int)) else 1)) = _
    congr 2
    split <;> split <;> omega
  have em : minA [.int ((ns.length : Nat) : Int), .int 3] = some (.int (if (3 : Int) < ((ns.length : Nat) : Int) then 3 else ((ns.length : Nat) : Int))) := rfl
  have el : lenA [.scr ns] = some (.int (ns.length : Nat)) := rfl
  have hr : rangeD [.int ((n : Nat) : Int)] = some ((List.range n).map fun k => .int (k : Nat)) := by
    rw [rangeD1 (by omega) (by omega), Int.toNat_natCast]
  obtain ⟨ρ', e, y1, y2, y3, y4, y5, y6, y7, y8, y9, rfl⟩ := forL_fold (b := gName 1) (g := bCell) (f := fun k : Nat => D.int (k : Nat)) (σ := Unit) (step := fun s _ => s) (St := fun _ ρ => ∃ y1 y2 y3 y4 y5 y6 y7 y8 y9, ρ = [some (.scr ns), y1, y2, y3, y4, y5, y6, y7, y8, y9]) (List.range n) () [some (.scr ns), none, none, none, none, none, none, none, none, none] ⟨_, _, _, _, _, _, _, _, _, rfl⟩ (by
    rintro j hj _ ρ ⟨y1, y2, y3, y4, y5, y6, y7, y8, y9, rfl⟩
    have := List.mem_range.mp hj
    obtain ⟨z2, z3, z4, z5, z6, z7, z8, z9, e⟩ := cell_ok ns j (by omega) y2 y3 y4 y5 y6 y7 y8 y9
    exact ⟨_, _, rfl, e, _, _, _, _, _, _, _, _, _, rfl⟩)
  refine ⟨.non, ?_⟩
  generalize (List.range n).map (fun k : Nat => D.int (k : Nat)) = MS at *
  unfold bCell at e
  simp (disch := first | assumption | decide | omega) only [m_law, b_law, runF, m0, sSeq, sSet, sIf, sRet, sRetN, sExpr, sSkip_ok, sSetA, sSetIx, sFor, sPar, sBind, sAug, eVar, eCon_ok, eOp2, eOp1, eCall, eCallM, eCallT, eTup, eLst, eArg, eIf, tVal, tNotF, tAndF, tOrF, eB, eAndF, eOrF, eNotF, eIxA, eIxO, eCatO, ixA_lst, ixA_tup, ixA_scr, eDNew, eDGet, eDGetO, eDPop, eSortK, eMM, aHoleQ, aHole, aNil_ok, aCons, oNone_ok, oSome, eSlice, eSliceL, iSeqA, iSeq, iRange, iArg, ePeek, tPeek, eOwnM, tYes_ok, bind_ok, bind_exc, bind_stuck, of_some, flatD, SW.gName, List.getD_cons_zero, List.getD_cons_succ, List.set_cons_zero, List.set_cons_succ, List.map_cons, List.map_nil, List.length_cons, List.length_nil, List.cons_append, List.nil_append, List.replicate, Nat.reduceAdd, Nat.reduceSub, addD_int, subD_int, negD_int, repD_int, modD_int, fdivD_int, ltA_int, leA_int, gtA_int, geA_int, eqD_int, neD_int, pow_10_18, pow_10_60, el, em, en, hr, e]

end Lw

set_option maxRecDepth 100000
set_option maxHeartbeats 0
namespace Lw
open PySem PySem.Spec PyProof.Rows L2 SW

theorem sc__law_mixed : FnScope nn__law_mixed ["_law_cell", "_law_k"] (defScope s__law_mixed) := ⟨rfl, rfl, rfl, by decide +kernel, rfl, by decide +kernel, by decide +kernel⟩

theorem sc__law_purse : FnScope nn__law_purse ["_law_cell", "_law_k"] (defScope s__law_purse) := ⟨rfl, rfl, rfl, by decide +kernel, rfl, by decide +kernel, by decide +kernel⟩

theorem sc__law_rank : FnScope nn__law_rank ["_law_word_here"] (defScope s__law_rank) := ⟨rfl, rfl, rfl, by decide +kernel, rfl, by decide +kernel, by decide +kernel⟩

theorem sc__law_told : FnScope nn__law_told ["_law_found"] (defScope s__law_told) := ⟨rfl, rfl, rfl, by decide +kernel, rfl, by decide +kernel, by decide +kernel⟩

theorem sc__law_at : FnScope nn__law_at ["_law_script", "_law_k"] (defScope s__law_at) := ⟨rfl, rfl, rfl, by decide +kernel, rfl, by decide +kernel, by decide +kernel⟩

theorem sc__law_take : FnScope nn__law_take ["_law_purse_here", "_law_many"] (defScope s__law_take) := ⟨rfl, rfl, rfl, by decide +kernel, rfl, by decide +kernel, by decide +kernel⟩

theorem sc__law_word : FnScope nn__law_word ["_law_purse_here", "_law_count", "_law_most"] (defScope s__law_word) := ⟨rfl, rfl, rfl, by decide +kernel, rfl, by decide +kernel, by decide +kernel⟩

theorem sc__law_low : FnScope nn__law_low ["_law_top", "_law_bottom"] (defScope s__law_low) := ⟨rfl, rfl, rfl, by decide +kernel, rfl, by decide +kernel, by decide +kernel⟩

theorem sc__law_number : FnScope nn__law_number ["_law_purse_here"] (defScope s__law_number) := ⟨rfl, rfl, rfl, by decide +kernel, rfl, by decide +kernel, by decide +kernel⟩

theorem sc__law_sum : FnScope nn__law_sum ["_law_purse_here", "_law_count", "_law_many", "_law_most"] (defScope s__law_sum) := ⟨rfl, rfl, rfl, by decide +kernel, rfl, by decide +kernel, by decide +kernel⟩

theorem sc_is_whole : FnScope nn_is_whole ["one"] (defScope s_is_whole) := ⟨rfl, rfl, rfl, by decide +kernel, rfl, by decide +kernel, by decide +kernel⟩

theorem sc_check_count : FnScope nn_check_count ["count"] (defScope s_check_count) := ⟨rfl, rfl, rfl, by decide +kernel, rfl, by decide +kernel, by decide +kernel⟩

theorem sc_is_word : FnScope nn_is_word ["word", "count"] (defScope s_is_word) := ⟨rfl, rfl, rfl, by decide +kernel, rfl, by decide +kernel, by decide +kernel⟩

theorem sc_divisor : FnScope nn_divisor ["one", "other"] (defScope s_divisor) := ⟨rfl, rfl, rfl, by decide +kernel, rfl, by decide +kernel, by decide +kernel⟩

theorem sc_is_number : FnScope nn_is_number ["one"] (defScope s_is_number) := ⟨rfl, rfl, rfl, by decide +kernel, rfl, by decide +kernel, by decide +kernel⟩

theorem sc_is_term : FnScope nn_is_term ["told", "count"] (defScope s_is_term) := ⟨rfl, rfl, rfl, by decide +kernel, rfl, by decide +kernel, by decide +kernel⟩

theorem sc_rank : FnScope nn_rank ["word"] (defScope s_rank) := ⟨rfl, rfl, rfl, by decide +kernel, rfl, by decide +kernel, by decide +kernel⟩

theorem sc_check_sum : FnScope nn_check_sum ["count", "total"] (defScope s_check_sum) := ⟨rfl, rfl, rfl, by decide +kernel, rfl, by decide +kernel, by decide +kernel⟩

theorem sc_told_sum : FnScope nn_told_sum ["numbers"] (defScope s_told_sum) := ⟨rfl, rfl, rfl, by decide +kernel, rfl, by decide +kernel, by decide +kernel⟩

theorem sc_lowest : FnScope nn_lowest ["top", "bottom"] (defScope s_lowest) := ⟨rfl, rfl, rfl, by decide +kernel, rfl, by decide +kernel, by decide +kernel⟩

theorem sc_plus : FnScope nn_plus ["one", "other"] (defScope s_plus) := ⟨rfl, rfl, rfl, by decide +kernel, rfl, by decide +kernel, by decide +kernel⟩

theorem sc_put_to : FnScope nn_put_to ["numbers", "word", "number"] (defScope s_put_to) := ⟨rfl, rfl, rfl, by decide +kernel, rfl, by decide +kernel, by decide +kernel⟩

theorem sc_times : FnScope nn_times ["one", "other"] (defScope s_times) := ⟨rfl, rfl, rfl, by decide +kernel, rfl, by decide +kernel, by decide +kernel⟩

theorem sc_joined_short : FnScope nn_joined_short ["one", "other", "most"] (defScope s_joined_short) := ⟨rfl, rfl, rfl, by decide +kernel, rfl, by decide +kernel, by decide +kernel⟩

theorem sc_cut_joined : FnScope nn_cut_joined ["count", "one", "other"] (defScope s_cut_joined) := ⟨rfl, rfl, rfl, by decide +kernel, rfl, by decide +kernel, by decide +kernel⟩

theorem sc__law_plus : FnScope nn__law_plus ["_law_one", "_law_other"] (defScope s__law_plus) := ⟨rfl, rfl, rfl, by decide +kernel, rfl, by decide +kernel, by decide +kernel⟩

theorem sc__law_put : FnScope nn__law_put ["_law_found", "_law_word_here", "_law_number_here"] (defScope s__law_put) := ⟨rfl, rfl, rfl, by decide +kernel, rfl, by decide +kernel, by decide +kernel⟩

theorem sc__law_by : FnScope nn__law_by ["_law_one", "_law_other"] (defScope s__law_by) := ⟨rfl, rfl, rfl, by decide +kernel, rfl, by decide +kernel, by decide +kernel⟩

theorem sc__law_joined : FnScope nn__law_joined ["_law_one", "_law_other"] (defScope s__law_joined) := ⟨rfl, rfl, rfl, by decide +kernel, rfl, by decide +kernel, by decide +kernel⟩

theorem sc_law : FnScope nn_law ["_law_script"] (defScope s_law) := ⟨rfl, rfl, rfl, by decide +kernel, rfl, by decide +kernel, by decide +kernel⟩

structure Txt (P : Program) (K : PySem.W.Frag) (mg : Str → Option Value) where
  seer : seerB K = true
  tree : P.given.tree = none

  a__law_mixed : Addr
  d__law_mixed : FuncData
  F__law_mixed : Fun K "_law_mixed" "_law_mixed" s__law_mixed a__law_mixed d__law_mixed
  g__law_mixed : mg "_law_mixed" = some (.ref a__law_mixed)
  k__law_mixed : PySem.W.keepIn K (.ref a__law_mixed) = true
  b__law_mixed : L2.Binds K d__law_mixed ["_law_cell", "_law_k"] []

  a__law_purse : Addr
  d__law_purse : FuncData
  F__law_purse : Fun K "_law_purse" "_law_purse" s__law_purse a__law_purse d__law_purse
  g__law_purse : mg "_law_purse" = some (.ref a__law_purse)
  k__law_purse : PySem.W.keepIn K (.ref a__law_purse) = true
  b__law_purse : L2.Binds K d__law_purse ["_law_cell", "_law_k"] []

  a__law_rank : Addr
  d__law_rank : FuncData
  F__law_rank : Fun K "_law_rank" "_law_rank" s__law_rank a__law_rank d__law_rank
  g__law_rank : mg "_law_rank" = some (.ref a__law_rank)
  k__law_rank : PySem.W.keepIn K (.ref a__law_rank) = true
  b__law_rank : L2.Binds K d__law_rank ["_law_word_here"] []

  a__law_told : Addr
  d__law_told : FuncData
  F__law_told : Fun K "_law_told" "_law_told" s__law_told a__law_told d__law_told
  g__law_told : mg "_law_told" = some (.ref a__law_told)
  k__law_told : PySem.W.keepIn K (.ref a__law_told) = true
  b__law_told : L2.Binds K d__law_told ["_law_found"] []

  a__law_at : Addr
  d__law_at : FuncData
  F__law_at : Fun K "_law_at" "_law_at" s__law_at a__law_at d__law_at
  g__law_at : mg "_law_at" = some (.ref a__law_at)
  k__law_at : PySem.W.keepIn K (.ref a__law_at) = true
  b__law_at : L2.Binds K d__law_at ["_law_script", "_law_k"] []

  a__law_take : Addr
  d__law_take : FuncData
  F__law_take : Fun K "_law_take" "_law_take" s__law_take a__law_take d__law_take
  g__law_take : mg "_law_take" = some (.ref a__law_take)
  k__law_take : PySem.W.keepIn K (.ref a__law_take) = true
  b__law_take : L2.Binds K d__law_take ["_law_purse_here", "_law_many"] []

  a__law_word : Addr
  d__law_word : FuncData
  F__law_word : Fun K "_law_word" "_law_word" s__law_word a__law_word d__law_word
  g__law_word : mg "_law_word" = some (.ref a__law_word)
  k__law_word : PySem.W.keepIn K (.ref a__law_word) = true
  b__law_word : L2.Binds K d__law_word ["_law_purse_here", "_law_count", "_law_most"] []

  a__law_low : Addr
  d__law_low : FuncData
  F__law_low : Fun K "_law_low" "_law_low" s__law_low a__law_low d__law_low
  g__law_low : mg "_law_low" = some (.ref a__law_low)
  k__law_low : PySem.W.keepIn K (.ref a__law_low) = true
  b__law_low : L2.Binds K d__law_low ["_law_top", "_law_bottom"] []

  a__law_number : Addr
  d__law_number : FuncData
  F__law_number : Fun K "_law_number" "_law_number" s__law_number a__law_number d__law_number
  g__law_number : mg "_law_number" = some (.ref a__law_number)
  k__law_number : PySem.W.keepIn K (.ref a__law_number) = true
  b__law_number : L2.Binds K d__law_number ["_law_purse_here"] []

  a__law_sum : Addr
  d__law_sum : FuncData
  F__law_sum : Fun K "_law_sum" "_law_sum" s__law_sum a__law_sum d__law_sum
  g__law_sum : mg "_law_sum" = some (.ref a__law_sum)
  k__law_sum : PySem.W.keepIn K (.ref a__law_sum) = true
  b__law_sum : L2.Binds K d__law_sum ["_law_purse_here", "_law_count", "_law_many", "_law_most"] []

  a_is_whole : Addr
  d_is_whole : FuncData
  F_is_whole : Fun K "is_whole" "is_whole" s_is_whole a_is_whole d_is_whole
  g_is_whole : mg "is_whole" = some (.ref a_is_whole)
  k_is_whole : PySem.W.keepIn K (.ref a_is_whole) = true
  b_is_whole : L2.Binds K d_is_whole ["one"] []

  a_check_count : Addr
  d_check_count : FuncData
  F_check_count : Fun K "check_count" "check_count" s_check_count a_check_count d_check_count
  g_check_count : mg "check_count" = some (.ref a_check_count)
  k_check_count : PySem.W.keepIn K (.ref a_check_count) = true
  b_check_count : L2.Binds K d_check_count ["count"] []

  a_is_word : Addr
  d_is_word : FuncData
  F_is_word : Fun K "is_word" "is_word" s_is_word a_is_word d_is_word
  g_is_word : mg "is_word" = some (.ref a_is_word)
  k_is_word : PySem.W.keepIn K (.ref a_is_word) = true
  b_is_word : L2.Binds K d_is_word ["word", "count"] []

  a_divisor : Addr
  d_divisor : FuncData
  F_divisor : Fun K "divisor" "divisor" s_divisor a_divisor d_divisor
  g_divisor : mg "divisor" = some (.ref a_divisor)
  k_divisor : PySem.W.keepIn K (.ref a_divisor) = true
  b_divisor : L2.Binds K d_divisor ["one", "other"] []

  a_is_number : Addr
  d_is_number : FuncData
  F_is_number : Fun K "is_number" "is_number" s_is_number a_is_number d_is_number
  g_is_number : mg "is_number" = some (.ref a_is_number)
  k_is_number : PySem.W.keepIn K (.ref a_is_number) = true
  b_is_number : L2.Binds K d_is_number ["one"] []

  a_is_term : Addr
  d_is_term : FuncData
  F_is_term : Fun K "is_term" "is_term" s_is_term a_is_term d_is_term
  g_is_term : mg "is_term" = some (.ref a_is_term)
  k_is_term : PySem.W.keepIn K (.ref a_is_term) = true
  b_is_term : L2.Binds K d_is_term ["told", "count"] []

  a_rank : Addr
  d_rank : FuncData
  F_rank : Fun K "rank" "rank" s_rank a_rank d_rank
  g_rank : mg "rank" = some (.ref a_rank)
  k_rank : PySem.W.keepIn K (.ref a_rank) = true
  b_rank : L2.Binds K d_rank ["word"] []

  a_check_sum : Addr
  d_check_sum : FuncData
  F_check_sum : Fun K "check_sum" "check_sum" s_check_sum a_check_sum d_check_sum
  g_check_sum : mg "check_sum" = some (.ref a_check_sum)
  k_check_sum : PySem.W.keepIn K (.ref a_check_sum) = true
  b_check_sum : L2.Binds K d_check_sum ["count", "total"] []

  a_told_sum : Addr
  d_told_sum : FuncData
  F_told_sum : Fun K "told_sum" "told_sum" s_told_sum a_told_sum d_told_sum
  g_told_sum : mg "told_sum" = some (.ref a_told_sum)
  k_told_sum : PySem.W.keepIn K (.ref a_told_sum) = true
  b_told_sum : L2.Binds K d_told_sum ["numbers"] []

  a_lowest : Addr
  d_lowest : FuncData
  F_lowest : Fun K "lowest" "lowest" s_lowest a_lowest d_lowest
  g_lowest : mg "lowest" = some (.ref a_lowest)
  k_lowest : PySem.W.keepIn K (.ref a_lowest) = true
  b_lowest : L2.Binds K d_lowest ["top", "bottom"] []

  a_plus : Addr
  d_plus : FuncData
  F_plus : Fun K "plus" "plus" s_plus a_plus d_plus
  g_plus : mg "plus" = some (.ref a_plus)
  k_plus : PySem.W.keepIn K (.ref a_plus) = true
  b_plus : L2.Binds K d_plus ["one", "other"] []

  a_put_to : Addr
  d_put_to : FuncData
  F_put_to : Fun K "put_to" "put_to" s_put_to a_put_to d_put_to
  g_put_to : mg "put_to" = some (.ref a_put_to)
  k_put_to : PySem.W.keepIn K (.ref a_put_to) = true
  b_put_to : L2.Binds K d_put_to ["numbers", "word", "number"] []

  a_times : Addr
  d_times : FuncData
  F_times : Fun K "times" "times" s_times a_times d_times
  g_times : mg "times" = some (.ref a_times)
  k_times : PySem.W.keepIn K (.ref a_times) = true
  b_times : L2.Binds K d_times ["one", "other"] []

  a_joined_short : Addr
  d_joined_short : FuncData
  F_joined_short : Fun K "joined_short" "joined_short" s_joined_short a_joined_short d_joined_short
  g_joined_short : mg "joined_short" = some (.ref a_joined_short)
  k_joined_short : PySem.W.keepIn K (.ref a_joined_short) = true
  b_joined_short : L2.Binds K d_joined_short ["one", "other", "most"] []

  a_cut_joined : Addr
  d_cut_joined : FuncData
  F_cut_joined : Fun K "cut_joined" "cut_joined" s_cut_joined a_cut_joined d_cut_joined
  g_cut_joined : mg "cut_joined" = some (.ref a_cut_joined)
  k_cut_joined : PySem.W.keepIn K (.ref a_cut_joined) = true
  b_cut_joined : L2.Binds K d_cut_joined ["count", "one", "other"] []

  a__law_plus : Addr
  d__law_plus : FuncData
  F__law_plus : Fun K "_law_plus" "_law_plus" s__law_plus a__law_plus d__law_plus
  g__law_plus : mg "_law_plus" = some (.ref a__law_plus)
  k__law_plus : PySem.W.keepIn K (.ref a__law_plus) = true
  b__law_plus : L2.Binds K d__law_plus ["_law_one", "_law_other"] []

  a__law_put : Addr
  d__law_put : FuncData
  F__law_put : Fun K "_law_put" "_law_put" s__law_put a__law_put d__law_put
  g__law_put : mg "_law_put" = some (.ref a__law_put)
  k__law_put : PySem.W.keepIn K (.ref a__law_put) = true
  b__law_put : L2.Binds K d__law_put ["_law_found", "_law_word_here", "_law_number_here"] []

  a__law_by : Addr
  d__law_by : FuncData
  F__law_by : Fun K "_law_by" "_law_by" s__law_by a__law_by d__law_by
  g__law_by : mg "_law_by" = some (.ref a__law_by)
  k__law_by : PySem.W.keepIn K (.ref a__law_by) = true
  b__law_by : L2.Binds K d__law_by ["_law_one", "_law_other"] []

  a__law_joined : Addr
  d__law_joined : FuncData
  F__law_joined : Fun K "_law_joined" "_law_joined" s__law_joined a__law_joined d__law_joined
  g__law_joined : mg "_law_joined" = some (.ref a__law_joined)
  k__law_joined : PySem.W.keepIn K (.ref a__law_joined) = true
  b__law_joined : L2.Binds K d__law_joined ["_law_one", "_law_other"] []

  a_law : Addr
  d_law : FuncData
  F_law : Fun K "law" "law" s_law a_law d_law
  g_law : mg "law" = some (.ref a_law)
  k_law : PySem.W.keepIn K (.ref a_law) = true
  b_law : L2.Binds K d_law ["_law_script"] []

  z_abs : mg "abs" = none

  z_bool : mg "bool" = none

  z_enumerate : mg "enumerate" = none

  z_int : mg "int" = none

  z_isinstance : mg "isinstance" = none

  z_len : mg "len" = none

  z_list : mg "list" = none

  z_max : mg "max" = none

  z_min : mg "min" = none

  z_range : mg "range" = none

  z_sorted : mg "sorted" = none

  z_str : mg "str" = none

  z_tuple : mg "tuple" = none

  c_MOST : Konst K mg "MOST" k_MOST

  c_MOST_LETTERS : Konst K mg "MOST_LETTERS" k_MOST_LETTERS

  c_NOUGHT : Konst K mg "NOUGHT" k_NOUGHT

section
variable {P : Program} {w : World} {K : PySem.W.Frag} {mg : Str → Option Value} {base : Heap}

theorem ok__law_mixed (T : Txt P K mg) : FnOk P w K mg base (L2.CX P w) 34 T.a__law_mixed T.d__law_mixed ["_law_cell", "_law_k"] (spec K mg 2 none false m__law_mixed) := by
  refine @fn_by P w K mg base "_law_mixed" "_law_mixed" s__law_mixed T.a__law_mixed T.d__law_mixed nn__law_mixed ["_law_cell", "_law_k"] 33 2 none false b__law_mixed [false, false, false] [false, false, false] T.F__law_mixed sc__law_mixed rfl (fun _ => rfl) (os_ok rfl) rfl (.inl rfl) (fun cdv A outer s H E hr X eX tk hp => ?_)
  subst eX
  unfold b__law_mixed
  exact (vss_cons (vs_set 2 (ve_bin o_add (ve_bin o_add (ve_bin o_mul (ve_bin o_add (ve_bin o_mod (ve_var 0) (ve_bin o_add (ve_bin o_pow ve_int ve_int) ve_int)) (ve_bin o_mul ve_int (ve_var 1))) ve_int) (ve_bin o_mul ve_int (ve_var 1))) ve_int) sc__law_mixed.nd) (vss_cons (vs_set 2 (ve_bin o_mod (ve_bin o_mul (ve_var 2) (ve_var 2)) (ve_bin o_add (ve_bin o_pow ve_int ve_int) ve_int)) sc__law_mixed.nd) (vss_one (vs_ret (ve_bin o_mod (ve_bin o_mul (ve_bin o_add (ve_var 2) ve_int) (ve_bin o_add (ve_var 2) ve_int)) (ve_bin o_add (ve_bin o_pow ve_int ve_int) ve_int))))))

theorem ok__law_purse (T : Txt P K mg) : FnOk P w K mg base (L2.CX P w) 35 T.a__law_purse T.d__law_purse ["_law_cell", "_law_k"] (spec K mg 2 none true m__law_purse) := by
  refine @fn_by P w K mg base "_law_purse" "_law_purse" s__law_purse T.a__law_purse T.d__law_purse nn__law_purse ["_law_cell", "_law_k"] 34 2 none true b__law_purse [false, false] [false, false] T.F__law_purse sc__law_purse rfl (fun _ => rfl) (os_ok rfl) rfl (.inr (nn_seq nn_ret)) (fun cdv A outer s H E hr X eX tk hp => ?_)
  subst eX
  unfold b__law_purse
  exact (vss_cons (vs_if (vt_cmp (o_geA (hr.units)) (ve_var 0) (ve_bin o_pow ve_int ve_int)) (vss_one (vs_retO (ve_lstO (va_cons (ve_bin o_sub (ve_var 0) (ve_bin o_pow ve_int ve_int)) (va_cons ve_int (va_cons (ve_var 1) va_nil)))))) vss_nil) (vss_one (vs_retO (ve_lstO (va_cons (ve_call (ok__law_mixed T) tk (hr.mono (by decide)) T.g__law_mixed T.k__law_mixed T.b__law_mixed (va_cons (ve_var 0) (va_cons (ve_var 1) va_nil))) (va_cons ve_int (va_cons (ve_bin o_add (ve_bin o_mod (ve_var 0) (ve_bin o_add (ve_bin o_pow ve_int ve_int) ve_int)) (ve_var 1)) va_nil)))))))

theorem ok__law_rank (T : Txt P K mg) : FnOk P w K mg base (L2.CX P w) 34 T.a__law_rank T.d__law_rank ["_law_word_here"] (spec K mg 1 none false m__law_rank) := by
  refine @fn_by P w K mg base "_law_rank" "_law_rank" s__law_rank T.a__law_rank T.d__law_rank nn__law_rank ["_law_word_here"] 33 1 none false b__law_rank [false] [false] T.F__law_rank sc__law_rank rfl (fun _ => rfl) (os_ok rfl) rfl (.inl rfl) (fun cdv A outer s H E hr X eX tk hp => ?_)
  subst eX
  unfold b__law_rank
  exact (vss_one (vs_ret (ve_tup (va_cons (ve_callB c_lenA (va_cons (ve_var 0) va_nil) T.z_len bt_len) (va_cons (ve_var 0) va_nil)))))

theorem ok__law_told (T : Txt P K mg) : FnOk P w K mg base (L2.CX P w) 37 T.a__law_told T.d__law_told ["_law_found"] (spec K mg 1 none true m__law_told) := by
  refine @fn_by P w K mg base "_law_told" "_law_told" s__law_told T.a__law_told T.d__law_told nn__law_told ["_law_found"] 36 1 none true b__law_told [false, false] [false, false] T.F__law_told sc__law_told rfl (fun _ => rfl) (os_ok rfl) rfl (.inr nn_ret) (fun cdv A outer s H E hr X eX tk hp => ?_)
  subst eX
  unfold b__law_told
  exact (vss_one (vs_retO (ve_lc (own := [("_law_word_here", 1)]) (blkOk_by (N := nn__law_told) (sc := defScope s__law_told) (by decide +kernel)) (vi_seqA (VE.fz (ve_sortK (ok__law_rank T) (hr.mono (by decide)) T.g__law_rank T.b__law_rank (ve_var 0) T.z_sorted))) (fun _ _ _ _ _ => (vg_name 1 sc__law_told.nd)) (fun _ _ _ _ _ => vts_nil) (fun _ _ _ _ _ => (ve_tup (va_cons (ve_var 1) (va_cons (ve_ixA (hr.units) (ve_var 0) (ve_var 1)) va_nil)))) sc__law_told.nd)))

theorem ok__law_at (T : Txt P K mg) : FnOk P w K mg base (L2.CX P w) 34 T.a__law_at T.d__law_at ["_law_script", "_law_k"] (spec K mg 2 none false m__law_at) := by
  refine @fn_by P w K mg base "_law_at" "_law_at" s__law_at T.a__law_at T.d__law_at nn__law_at ["_law_script", "_law_k"] 33 2 none false b__law_at [false, false] [false, false] T.F__law_at sc__law_at rfl (fun _ => rfl) (os_ok rfl) rfl (.inl rfl) (fun cdv A outer s H E hr X eX tk hp => ?_)
  subst eX
  unfold b__law_at
  exact (vss_cons (vs_if (vt_cmp (o_ltA (hr.units)) (ve_var 1) (ve_callB c_lenA (va_cons (ve_var 0) va_nil) T.z_len bt_len)) (vss_one (vs_ret (ve_ixA (hr.units) (ve_var 0) (ve_var 1)))) vss_nil) (vss_one (vs_ret (ve_bin o_add (ve_bin o_mul ve_int (ve_var 1)) ve_int))))

theorem ok__law_take (T : Txt P K mg) : FnOk P w K mg base (L2.CX P w) 35 T.a__law_take T.d__law_take ["_law_purse_here", "_law_many"] (spec K mg 2 (some 0) false m__law_take) := by
  refine @fn_by P w K mg base "_law_take" "_law_take" s__law_take T.a__law_take T.d__law_take nn__law_take ["_law_purse_here", "_law_many"] 34 2 (some 0) false b__law_take [true, false, false] [true, false, false] T.F__law_take sc__law_take rfl (fun _ => rfl) (os_ok rfl) rfl (.inl rfl) (fun cdv A outer s H E hr X eX tk hp => ?_)
  subst eX
  unfold b__law_take
  exact (vss_cons (vs_if (vt_peek (vt_cmp (o_ltA (hr.units)) (ve_ixA (hr.units) (ve_var 0) ve_int) (ve_var 1))) (vss_cons (vs_setA (hr.units) 0 (ve_bin o_add (ve_ixAO (hr.units) 0 ve_int) ve_int) ve_int) (vss_one (vs_setA (hr.units) 0 (ve_bin o_add (ve_ixAO (hr.units) 0 ve_int) (ve_bin o_mul (ve_var 1) (ve_call (ok__law_mixed T) tk (hr.mono (by decide)) T.g__law_mixed T.k__law_mixed T.b__law_mixed (va_cons (ve_ixAO (hr.units) 0 ve_int) (va_cons (ve_bin o_add (ve_bin o_mul ve_int (ve_ixAO (hr.units) 0 ve_int)) ve_int) va_nil))))) ve_int))) vss_nil) (vss_cons (vs_set 2 (ve_bin o_mod (ve_ixAO (hr.units) 0 ve_int) (ve_var 1)) sc__law_take.nd) (vss_cons (vs_setA (hr.units) 0 (ve_bin (o_fdiv (Dv.mk T.seer T.tree (dv_room hr (by decide)) ⟨_, _, rfl, sc__law_take.gen, sc__law_take.co, rfl, rfl⟩)) (ve_ixAO (hr.units) 0 ve_int) (ve_var 1)) ve_int) (vss_one (vs_ret (ve_var 2))))))

theorem ok__law_word (T : Txt P K mg) : FnOk P w K mg base (L2.CX P w) 36 T.a__law_word T.d__law_word ["_law_purse_here", "_law_count", "_law_most"] (spec K mg 3 (some 0) false m__law_word) := by
  refine @fn_by P w K mg base "_law_word" "_law_word" s__law_word T.a__law_word T.d__law_word nn__law_word ["_law_purse_here", "_law_count", "_law_most"] 35 3 (some 0) false b__law_word [true, false, false, false] [true, false, false, false] T.F__law_word sc__law_word rfl (fun _ => rfl) (os_ok rfl) rfl (.inl rfl) (fun cdv A outer s H E hr X eX tk hp => ?_)
  subst eX
  unfold b__law_word
  exact (vss_one (vs_ret (ve_callTy c_tuple (va_cons (VE.fz (ve_lc (own := [("_law_place", 3)]) (blkOk_by (N := nn__law_word) (sc := defScope s__law_word) (by decide +kernel)) (vi_range1 (va_cons (ve_callM (ok__law_take T) tk (hr.mono (by decide)) T.g__law_take T.k__law_take T.b__law_take (vb_here 0 (va_cons (ve_bin o_add (ve_var 2) ve_int) va_nil))) va_nil) T.z_range) (fun _ _ _ _ _ => (vg_name 3 sc__law_word.nd)) (fun _ _ _ _ _ => vts_nil) (fun _ _ _ _ _ => (ve_callM (ok__law_take T) takes0 (hr.mono (by decide)) T.g__law_take T.k__law_take T.b__law_take (vb_here 0 (va_cons (ve_var 1) va_nil)))) sc__law_word.nd)) va_nil) T.z_tuple bt_tuple)))

theorem ok__law_low (T : Txt P K mg) : FnOk P w K mg base (L2.CX P w) 34 T.a__law_low T.d__law_low ["_law_top", "_law_bottom"] (spec K mg 2 none false m__law_low) := by
  refine @fn_by P w K mg base "_law_low" "_law_low" s__law_low T.a__law_low T.d__law_low nn__law_low ["_law_top", "_law_bottom"] 33 2 none false b__law_low [false, false, false, false] [false, false, false, false] T.F__law_low sc__law_low rfl (fun _ => rfl) (os_ok rfl) rfl (.inl rfl) (fun cdv A outer s H E hr X eX tk hp => ?_)
  subst eX
  unfold b__law_low
  exact (vss_cons (vs_set 2 (ve_callB c_abs (va_cons (ve_var 0) va_nil) T.z_abs bt_abs) sc__law_low.nd) (vss_cons (vs_set 3 (ve_var 1) sc__law_low.nd) (vss_cons (vs_while (fuel := (fuelInt 3)) hp (vt_cmp (o_ne (hr.units)) (ve_var 3) ve_int) (vss_one (vs_par 2 3 (va_cons (ve_var 3) (va_cons (ve_bin o_mod (ve_var 2) (ve_var 3)) va_nil)) sc__law_low.nd))) (vss_one (vs_ret (ve_tup (va_cons (ve_bin (o_fdiv (Dv.mk T.seer T.tree (dv_room hr (by decide)) ⟨_, _, rfl, sc__law_low.gen, sc__law_low.co, rfl, rfl⟩)) (ve_var 0) (ve_var 2)) (va_cons (ve_bin (o_fdiv (Dv.mk T.seer T.tree (dv_room hr (by decide)) ⟨_, _, rfl, sc__law_low.gen, sc__law_low.co, rfl, rfl⟩)) (ve_var 1) (ve_var 2)) va_nil))))))))

theorem ok__law_number (T : Txt P K mg) : FnOk P w K mg base (L2.CX P w) 36 T.a__law_number T.d__law_number ["_law_purse_here"] (spec K mg 1 (some 0) false m__law_number) := by
  refine @fn_by P w K mg base "_law_number" "_law_number" s__law_number T.a__law_number T.d__law_number nn__law_number ["_law_purse_here"] 35 1 (some 0) false b__law_number [true, false] [true, false] T.F__law_number sc__law_number rfl (fun _ => rfl) (os_ok rfl) rfl (.inl rfl) (fun cdv A outer s H E hr X eX tk hp => ?_)
  subst eX
  unfold b__law_number
  exact (vss_cons (vs_set 1 (ve_callM (ok__law_take T) tk (hr.mono (by decide)) T.g__law_take T.k__law_take T.b__law_take (vb_here 0 (va_cons ve_int va_nil))) sc__law_number.nd) (vss_cons (vs_if (vt_cmp (o_ltA (hr.units)) (ve_var 1) ve_int) (vss_one (vs_ret (ve_ixA (hr.units) (VE.fz (ve_lstO (va_cons (ve_tup (va_cons ve_int (va_cons ve_int va_nil))) (va_cons (ve_tup (va_cons ve_int (va_cons ve_int va_nil))) (va_cons (ve_tup (va_cons (ve_un o_neg ve_int) (va_cons ve_int va_nil))) va_nil))))) (ve_var 1)))) vss_nil) (vss_cons (vs_if (vt_cmp (o_eq (hr.units)) (ve_var 1) ve_int) (vss_one (vs_ret (ve_tup (va_cons (ve_bin o_sub (ve_callM (ok__law_take T) tk (hr.mono (by decide)) T.g__law_take T.k__law_take T.b__law_take (vb_here 0 (va_cons ve_int va_nil))) ve_int) (va_cons ve_int va_nil))))) vss_nil) (vss_one (vs_ret (ve_call (ok__law_low T) tk (hr.mono (by decide)) T.g__law_low T.k__law_low T.b__law_low (va_cons (ve_bin o_sub (ve_callM (ok__law_take T) tk (hr.mono (by decide)) T.g__law_take T.k__law_take T.b__law_take (vb_here 0 (va_cons (ve_bin o_add (ve_bin o_mul ve_int (ve_bin o_pow ve_int ve_int)) ve_int) va_nil))) (ve_bin o_pow ve_int ve_int)) (va_cons (ve_bin o_add ve_int (ve_callM (ok__law_take T) tk (hr.mono (by decide)) T.g__law_take T.k__law_take T.b__law_take (vb_here 0 (va_cons ve_int va_nil)))) va_nil))))))))

theorem ok__law_sum (T : Txt P K mg) : FnOk P w K mg base (L2.CX P w) 37 T.a__law_sum T.d__law_sum ["_law_purse_here", "_law_count", "_law_many", "_law_most"] (spec K mg 4 (some 0) true m__law_sum) := by
  refine @fn_by P w K mg base "_law_sum" "_law_sum" s__law_sum T.a__law_sum T.d__law_sum nn__law_sum ["_law_purse_here", "_law_count", "_law_many", "_law_most"] 36 4 (some 0) true b__law_sum [true, false, false, false, false, false, false, false] [true, false, false, false, false, false, false, false] T.F__law_sum sc__law_sum rfl (fun _ => rfl) (os_ok rfl) rfl (.inr (nn_seq (nn_seq nn_ret))) (fun cdv A outer s H E hr X eX tk hp => ?_)
  subst eX
  unfold b__law_sum
  exact (vss_cons (vs_setO 4 ve_dnew sc__law_sum.nd) (vss_cons (vs_for hp (vi_range1 (va_cons (ve_callM (ok__law_take T) tk (hr.mono (by decide)) T.g__law_take T.k__law_take T.b__law_take (vb_here 0 (va_cons (ve_bin o_add (ve_var 2) ve_int) va_nil))) va_nil) T.z_range) (vg_name 5 sc__law_sum.nd) (vss_cons (vs_set 6 (ve_callM (ok__law_word T) tk (hr.mono (by decide)) T.g__law_word T.k__law_word T.b__law_word (vb_here 0 (va_cons (ve_var 1) (va_cons (ve_var 3) va_nil)))) sc__law_sum.nd) (vss_cons (vs_set 7 (ve_callM (ok__law_number T) tk (hr.mono (by decide)) T.g__law_number T.k__law_number T.b__law_number (vb_here 0 va_nil)) sc__law_sum.nd) (vss_one (vs_if (vt_cmp (o_ne (hr.units)) (ve_ixA (hr.units) (ve_var 7) ve_int) ve_int) (vss_one (vs_setA (hr.units) 4 (ve_var 7) (ve_var 6))) vss_nil))))) (vss_one (vs_retV 4))))

theorem ok_is_whole (T : Txt P K mg) : FnOk P w K mg base (L2.CX P w) 34 T.a_is_whole T.d_is_whole ["one"] (spec K mg 1 none false m_is_whole) := by
  refine @fn_by P w K mg base "is_whole" "is_whole" s_is_whole T.a_is_whole T.d_is_whole nn_is_whole ["one"] 33 1 none false b_is_whole [false] [false] T.F_is_whole sc_is_whole rfl (fun _ => rfl) (os_ok rfl) rfl (.inl rfl) (fun cdv A outer s H E hr X eX tk hp => ?_)
  subst eX
  unfold b_is_whole
  exact (vss_one (vs_ret (ve_and (ve_callB c_isi (va_cons (ve_var 0) (va_cons (ve_ty (T := .int) T.z_int bt_int) va_nil)) T.z_isinstance bt_isinstance) (ve_one (ve_not (ve_callB c_isi (va_cons (ve_var 0) (va_cons (ve_ty (T := .bool) T.z_bool bt_bool) va_nil)) T.z_isinstance bt_isinstance))))))

theorem ok_check_count (T : Txt P K mg) : FnOk P w K mg base (L2.CX P w) 35 T.a_check_count T.d_check_count ["count"] (spec K mg 1 none false m_check_count) := by
  refine @fn_by P w K mg base "check_count" "check_count" s_check_count T.a_check_count T.d_check_count nn_check_count ["count"] 34 1 none false b_check_count [false] [false] T.F_check_count sc_check_count rfl (fun _ => rfl) (os_ok rfl) rfl (.inl rfl) (fun cdv A outer s H E hr X eX tk hp => ?_)
  subst eX
  unfold b_check_count
  exact (vss_one (vs_if (VW.vt (vw_or (vt_not (vt_val (ve_call (ok_is_whole T) tk (hr.mono (by decide)) T.g_is_whole T.k_is_whole T.b_is_whole (va_cons (ve_var 0) va_nil)))) (vw_or (vt_cmp (o_ltA (hr.units)) (ve_var 0) ve_int) (vw_or1 (vt_cmp (o_gtA (hr.units)) (ve_var 0) (ve_konst T.c_MOST_LETTERS)))))) (vss_one vs_stuck) vss_nil))

theorem ok_is_word (T : Txt P K mg) : FnOk P w K mg base (L2.CX P w) 35 T.a_is_word T.d_is_word ["word", "count"] (spec K mg 2 none false m_is_word) := by
  refine @fn_by P w K mg base "is_word" "is_word" s_is_word T.a_is_word T.d_is_word nn_is_word ["word", "count"] 34 2 none false b_is_word [false, false, false] [false, false, false] T.F_is_word sc_is_word rfl (fun _ => rfl) (os_ok rfl) rfl (.inl rfl) (fun cdv A outer s H E hr X eX tk hp => ?_)
  subst eX
  unfold b_is_word
  exact (vss_cons (vs_if (VW.vt (vw_or (vt_not (vt_val (ve_callB c_isi (va_cons (ve_var 0) (va_cons (ve_ty (T := .tuple) T.z_tuple bt_tuple) va_nil)) T.z_isinstance bt_isinstance))) (vw_or1 (vt_cmp (o_gtA (hr.units)) (ve_callB c_lenA (va_cons (ve_var 0) va_nil) T.z_len bt_len) (ve_konst T.c_MOST))))) (vss_one (vs_ret ve_bl)) vss_nil) (vss_cons (vs_for hp (vi_seqA (ve_var 0)) (vg_name 2 sc_is_word.nd) (vss_one (vs_if (VW.vt (vw_or (vt_not (vt_val (ve_call (ok_is_whole T) tk (hr.mono (by decide)) T.g_is_whole T.k_is_whole T.b_is_whole (va_cons (ve_var 2) va_nil)))) (vw_or (vt_cmp (o_ltA (hr.units)) (ve_var 2) ve_int) (vw_or1 (vt_cmp (o_geA (hr.units)) (ve_var 2) (ve_var 1)))))) (vss_one (vs_ret ve_bl)) vss_nil))) (vss_one (vs_ret ve_bl))))

theorem ok_divisor (T : Txt P K mg) : FnOk P w K mg base (L2.CX P w) 34 T.a_divisor T.d_divisor ["one", "other"] (spec K mg 2 none false m_divisor) := by
  refine @fn_by P w K mg base "divisor" "divisor" s_divisor T.a_divisor T.d_divisor nn_divisor ["one", "other"] 33 2 none false b_divisor [false, false] [false, false] T.F_divisor sc_divisor rfl (fun _ => rfl) (os_ok rfl) rfl (.inl rfl) (fun cdv A outer s H E hr X eX tk hp => ?_)
  subst eX
  unfold b_divisor
  exact (vss_cons (vs_set 0 (ve_callB c_abs (va_cons (ve_var 0) va_nil) T.z_abs bt_abs) sc_divisor.nd) (vss_cons (vs_set 1 (ve_callB c_abs (va_cons (ve_var 1) va_nil) T.z_abs bt_abs) sc_divisor.nd) (vss_cons (vs_while (fuel := (fuelInt 1)) hp (vt_cmp (o_ne (hr.units)) (ve_var 1) ve_int) (vss_one (vs_par 0 1 (va_cons (ve_var 1) (va_cons (ve_bin o_mod (ve_var 0) (ve_var 1)) va_nil)) sc_divisor.nd))) (vss_one (vs_ret (ve_var 0))))))

theorem ok_is_number (T : Txt P K mg) : FnOk P w K mg base (L2.CX P w) 35 T.a_is_number T.d_is_number ["one"] (spec K mg 1 none false m_is_number) := by
  refine @fn_by P w K mg base "is_number" "is_number" s_is_number T.a_is_number T.d_is_number nn_is_number ["one"] 34 1 none false b_is_number [false] [false] T.F_is_number sc_is_number rfl (fun _ => rfl) (os_ok rfl) rfl (.inl rfl) (fun cdv A outer s H E hr X eX tk hp => ?_)
  subst eX
  unfold b_is_number
  exact (vss_cons (vs_if (VW.vt (vw_or (vt_not (vt_val (ve_callB c_isi (va_cons (ve_var 0) (va_cons (ve_ty (T := .tuple) T.z_tuple bt_tuple) va_nil)) T.z_isinstance bt_isinstance))) (vw_or1 (vt_cmp (o_ne (hr.units)) (ve_callB c_lenA (va_cons (ve_var 0) va_nil) T.z_len bt_len) ve_int)))) (vss_one (vs_ret ve_bl)) vss_nil) (vss_cons (vs_if (VW.vt (vw_or (vt_not (vt_val (ve_call (ok_is_whole T) tk (hr.mono (by decide)) T.g_is_whole T.k_is_whole T.b_is_whole (va_cons (ve_ixA (hr.units) (ve_var 0) ve_int) va_nil)))) (vw_or1 (vt_not (vt_val (ve_call (ok_is_whole T) tk (hr.mono (by decide)) T.g_is_whole T.k_is_whole T.b_is_whole (va_cons (ve_ixA (hr.units) (ve_var 0) ve_int) va_nil))))))) (vss_one (vs_ret ve_bl)) vss_nil) (vss_one (vs_ret (ve_and (ve_cmp (o_geA (hr.units)) (ve_ixA (hr.units) (ve_var 0) ve_int) ve_int) (ve_one (ve_cmp (o_eq (hr.units)) (ve_call (ok_divisor T) tk (hr.mono (by decide)) T.g_divisor T.k_divisor T.b_divisor (va_cons (ve_ixA (hr.units) (ve_var 0) ve_int) (va_cons (ve_ixA (hr.units) (ve_var 0) ve_int) va_nil))) ve_int)))))))

theorem ok_is_term (T : Txt P K mg) : FnOk P w K mg base (L2.CX P w) 36 T.a_is_term T.d_is_term ["told", "count"] (spec K mg 2 none false m_is_term) := by
  refine @fn_by P w K mg base "is_term" "is_term" s_is_term T.a_is_term T.d_is_term nn_is_term ["told", "count"] 35 2 none false b_is_term [false, false] [false, false] T.F_is_term sc_is_term rfl (fun _ => rfl) (os_ok rfl) rfl (.inl rfl) (fun cdv A outer s H E hr X eX tk hp => ?_)
  subst eX
  unfold b_is_term
  exact (vss_cons (vs_if (VW.vt (vw_or (vt_not (vt_val (ve_callB c_isi (va_cons (ve_var 0) (va_cons (ve_ty (T := .tuple) T.z_tuple bt_tuple) va_nil)) T.z_isinstance bt_isinstance))) (vw_or1 (vt_cmp (o_ne (hr.units)) (ve_callB c_lenA (va_cons (ve_var 0) va_nil) T.z_len bt_len) ve_int)))) (vss_one (vs_ret ve_bl)) vss_nil) (vss_one (vs_ret (ve_and (ve_call (ok_is_word T) tk (hr.mono (by decide)) T.g_is_word T.k_is_word T.b_is_word (va_cons (ve_ixA (hr.units) (ve_var 0) ve_int) (va_cons (ve_var 1) va_nil))) (ve_and (ve_call (ok_is_number T) tk (hr.mono (by decide)) T.g_is_number T.k_is_number T.b_is_number (va_cons (ve_ixA (hr.units) (ve_var 0) ve_int) va_nil)) (ve_one (ve_cmp (o_ne (hr.units)) (ve_ixA (hr.units) (ve_ixA (hr.units) (ve_var 0) ve_int) ve_int) ve_int)))))))

theorem ok_rank (T : Txt P K mg) : FnOk P w K mg base (L2.CX P w) 34 T.a_rank T.d_rank ["word"] (spec K mg 1 none false m_rank) := by
  refine @fn_by P w K mg base "rank" "rank" s_rank T.a_rank T.d_rank nn_rank ["word"] 33 1 none false b_rank [false] [false] T.F_rank sc_rank rfl (fun _ => rfl) (os_ok rfl) rfl (.inl rfl) (fun cdv A outer s H E hr X eX tk hp => ?_)
  subst eX
  unfold b_rank
  exact (vss_one (vs_ret (ve_tup (va_cons (ve_callB c_lenA (va_cons (ve_var 0) va_nil) T.z_len bt_len) (va_cons (ve_var 0) va_nil)))))

theorem ok_check_sum (T : Txt P K mg) : FnOk P w K mg base (L2.CX P w) 37 T.a_check_sum T.d_check_sum ["count", "total"] (spec K mg 2 none false m_check_sum) := by
  refine @fn_by P w K mg base "check_sum" "check_sum" s_check_sum T.a_check_sum T.d_check_sum nn_check_sum ["count", "total"] 36 2 none false b_check_sum [false, false, false, false] [false, false, false, false] T.F_check_sum sc_check_sum rfl (fun _ => rfl) (os_ok rfl) rfl (.inl rfl) (fun cdv A outer s H E hr X eX tk hp => ?_)
  subst eX
  unfold b_check_sum
  exact (vss_one (vs_for hp (vi_enum (va_cons (ve_var 1) va_nil) T.z_enumerate) (vg_tup (vgs_cons (vg_name 2 sc_check_sum.nd) (vgs_cons (vg_name 3 sc_check_sum.nd) vgs_nil))) (vss_cons (vs_if (vt_not (vt_val (ve_call (ok_is_term T) tk (hr.mono (by decide)) T.g_is_term T.k_is_term T.b_is_term (va_cons (ve_var 3) (va_cons (ve_var 0) va_nil))))) (vss_one vs_stuck) vss_nil) (vss_one (vs_if (VW.vt (vw_and (vt_cmp (o_gtA (hr.units)) (ve_var 2) ve_int) (vw_and1 (vt_cmp (o_geA (hr.units)) (ve_call (ok_rank T) tk (hr.mono (by decide)) T.g_rank T.k_rank T.b_rank (va_cons (ve_ixA (hr.units) (ve_ixA (hr.units) (ve_var 1) (ve_bin o_sub (ve_var 2) ve_int)) ve_int) va_nil)) (ve_call (ok_rank T) tk (hr.mono (by decide)) T.g_rank T.k_rank T.b_rank (va_cons (ve_ixA (hr.units) (ve_var 3) ve_int) va_nil)))))) (vss_one vs_stuck) vss_nil)))))

theorem ok_told_sum (T : Txt P K mg) : FnOk P w K mg base (L2.CX P w) 37 T.a_told_sum T.d_told_sum ["numbers"] (spec K mg 1 none true m_told_sum) := by
  refine @fn_by P w K mg base "told_sum" "told_sum" s_told_sum T.a_told_sum T.d_told_sum nn_told_sum ["numbers"] 36 1 none true b_told_sum [false, false] [false, false] T.F_told_sum sc_told_sum rfl (fun _ => rfl) (os_ok rfl) rfl (.inr nn_ret) (fun cdv A outer s H E hr X eX tk hp => ?_)
  subst eX
  unfold b_told_sum
  exact (vss_one (vs_retO (ve_lc (own := [("word", 1)]) (blkOk_by (N := nn_told_sum) (sc := defScope s_told_sum) (by decide +kernel)) (vi_seqA (VE.fz (ve_sortK (ok_rank T) (hr.mono (by decide)) T.g_rank T.b_rank (ve_var 0) T.z_sorted))) (fun _ _ _ _ _ => (vg_name 1 sc_told_sum.nd)) (fun _ _ _ _ _ => vts_nil) (fun _ _ _ _ _ => (ve_tup (va_cons (ve_var 1) (va_cons (ve_ixA (hr.units) (ve_var 0) (ve_var 1)) va_nil)))) sc_told_sum.nd)))

theorem ok_lowest (T : Txt P K mg) : FnOk P w K mg base (L2.CX P w) 35 T.a_lowest T.d_lowest ["top", "bottom"] (spec K mg 2 none false m_lowest) := by
  refine @fn_by P w K mg base "lowest" "lowest" s_lowest T.a_lowest T.d_lowest nn_lowest ["top", "bottom"] 34 2 none false b_lowest [false, false, false] [false, false, false] T.F_lowest sc_lowest rfl (fun _ => rfl) (os_ok rfl) rfl (.inl rfl) (fun cdv A outer s H E hr X eX tk hp => ?_)
  subst eX
  unfold b_lowest
  exact (vss_cons (vs_if (vt_cmp (o_ltA (hr.units)) (ve_var 1) ve_int) (vss_cons (vs_set 0 (ve_un o_neg (ve_var 0)) sc_lowest.nd) (vss_one (vs_set 1 (ve_un o_neg (ve_var 1)) sc_lowest.nd))) vss_nil) (vss_cons (vs_set 2 (ve_call (ok_divisor T) tk (hr.mono (by decide)) T.g_divisor T.k_divisor T.b_divisor (va_cons (ve_var 0) (va_cons (ve_var 1) va_nil))) sc_lowest.nd) (vss_one (vs_ret (ve_tup (va_cons (ve_bin (o_fdiv (Dv.mk T.seer T.tree (dv_room hr (by decide)) ⟨_, _, rfl, sc_lowest.gen, sc_lowest.co, rfl, rfl⟩)) (ve_var 0) (ve_var 2)) (va_cons (ve_bin (o_fdiv (Dv.mk T.seer T.tree (dv_room hr (by decide)) ⟨_, _, rfl, sc_lowest.gen, sc_lowest.co, rfl, rfl⟩)) (ve_var 1) (ve_var 2)) va_nil)))))))

theorem ok_plus (T : Txt P K mg) : FnOk P w K mg base (L2.CX P w) 36 T.a_plus T.d_plus ["one", "other"] (spec K mg 2 none false m_plus) := by
  refine @fn_by P w K mg base "plus" "plus" s_plus T.a_plus T.d_plus nn_plus ["one", "other"] 35 2 none false b_plus [false, false] [false, false] T.F_plus sc_plus rfl (fun _ => rfl) (os_ok rfl) rfl (.inl rfl) (fun cdv A outer s H E hr X eX tk hp => ?_)
  subst eX
  unfold b_plus
  exact (vss_cons (vs_if (VW.vt (vw_and (vt_cmp (o_eq (hr.units)) (ve_ixA (hr.units) (ve_var 0) ve_int) ve_int) (vw_and1 (vt_cmp (o_eq (hr.units)) (ve_ixA (hr.units) (ve_var 1) ve_int) ve_int)))) (vss_one (vs_ret (ve_tup (va_cons (ve_bin o_add (ve_ixA (hr.units) (ve_var 0) ve_int) (ve_ixA (hr.units) (ve_var 1) ve_int)) (va_cons ve_int va_nil))))) vss_nil) (vss_one (vs_ret (ve_call (ok_lowest T) tk (hr.mono (by decide)) T.g_lowest T.k_lowest T.b_lowest (va_cons (ve_bin o_add (ve_bin o_mul (ve_ixA (hr.units) (ve_var 0) ve_int) (ve_ixA (hr.units) (ve_var 1) ve_int)) (ve_bin o_mul (ve_ixA (hr.units) (ve_var 1) ve_int) (ve_ixA (hr.units) (ve_var 0) ve_int))) (va_cons (ve_bin o_mul (ve_ixA (hr.units) (ve_var 0) ve_int) (ve_ixA (hr.units) (ve_var 1) ve_int)) va_nil))))))

theorem ok_put_to (T : Txt P K mg) : FnOk P w K mg base (L2.CX P w) 37 T.a_put_to T.d_put_to ["numbers", "word", "number"] (spec K mg 3 (some 0) false m_put_to) := by
  refine @fn_by P w K mg base "put_to" "put_to" s_put_to T.a_put_to T.d_put_to nn_put_to ["numbers", "word", "number"] 36 3 (some 0) false b_put_to [true, false, false, false] [true, false, false, false] T.F_put_to sc_put_to rfl (fun _ => rfl) (os_ok rfl) rfl (.inl rfl) (fun cdv A outer s H E hr X eX tk hp => ?_)
  subst eX
  unfold b_put_to
  exact (vss_cons (vs_set 3 (ve_call (ok_plus T) tk (hr.mono (by decide)) T.g_plus T.k_plus T.b_plus (va_cons (ve_dgetO (hr.units) 0 (ve_var 1) (ve_konst T.c_NOUGHT)) (va_cons (ve_var 2) va_nil))) sc_put_to.nd) (vss_one (vs_if (vt_cmp (o_ne (hr.units)) (ve_ixA (hr.units) (ve_var 3) ve_int) ve_int) (vss_one (vs_setA (hr.units) 0 (ve_var 3) (ve_var 1))) (vss_one (vs_if (vt_peek (vt_cmp (o_inA (hu65 hr)) (ve_var 1) (ve_var 0))) (vss_one (vs_expr (ve_dpop (hr.units) 0 (ve_var 1)))) vss_nil)))))

theorem ok_times (T : Txt P K mg) : FnOk P w K mg base (L2.CX P w) 36 T.a_times T.d_times ["one", "other"] (spec K mg 2 none false m_times) := by
  refine @fn_by P w K mg base "times" "times" s_times T.a_times T.d_times nn_times ["one", "other"] 35 2 none false b_times [false, false] [false, false] T.F_times sc_times rfl (fun _ => rfl) (os_ok rfl) rfl (.inl rfl) (fun cdv A outer s H E hr X eX tk hp => ?_)
  subst eX
  unfold b_times
  exact (vss_cons (vs_if (VW.vt (vw_and (vt_cmp (o_eq (hr.units)) (ve_ixA (hr.units) (ve_var 0) ve_int) ve_int) (vw_and1 (vt_cmp (o_eq (hr.units)) (ve_ixA (hr.units) (ve_var 1) ve_int) ve_int)))) (vss_one (vs_ret (ve_tup (va_cons (ve_bin o_mul (ve_ixA (hr.units) (ve_var 0) ve_int) (ve_ixA (hr.units) (ve_var 1) ve_int)) (va_cons ve_int va_nil))))) vss_nil) (vss_one (vs_ret (ve_call (ok_lowest T) tk (hr.mono (by decide)) T.g_lowest T.k_lowest T.b_lowest (va_cons (ve_bin o_mul (ve_ixA (hr.units) (ve_var 0) ve_int) (ve_ixA (hr.units) (ve_var 1) ve_int)) (va_cons (ve_bin o_mul (ve_ixA (hr.units) (ve_var 0) ve_int) (ve_ixA (hr.units) (ve_var 1) ve_int)) va_nil))))))

theorem ok_joined_short (T : Txt P K mg) : FnOk P w K mg base (L2.CX P w) 38 T.a_joined_short T.d_joined_short ["one", "other", "most"] (spec K mg 3 none true m_joined_short) := by
  refine @fn_by P w K mg base "joined_short" "joined_short" s_joined_short T.a_joined_short T.d_joined_short nn_joined_short ["one", "other", "most"] 37 3 none true b_joined_short [false, false, false, false, false, false, false, false] [false, false, false, false, false, false, false, false] T.F_joined_short sc_joined_short rfl (fun _ => rfl) (os_ok rfl) rfl (.inr (nn_seq (nn_seq nn_ret))) (fun cdv A outer s H E hr X eX tk hp => ?_)
  subst eX
  unfold b_joined_short
  exact (vss_cons (vs_setO 3 ve_dnew sc_joined_short.nd) (vss_cons (vs_for hp (vi_seqA (ve_var 0)) (vg_tup (vgs_cons (vg_name 4 sc_joined_short.nd) (vgs_cons (vg_name 5 sc_joined_short.nd) vgs_nil))) (vss_one (vs_for hp (vi_seqA (ve_var 1)) (vg_tup (vgs_cons (vg_name 6 sc_joined_short.nd) (vgs_cons (vg_name 7 sc_joined_short.nd) vgs_nil))) (vss_one (vs_if (vt_cmp (o_leA (hr.units)) (ve_bin o_add (ve_callB c_lenA (va_cons (ve_var 4) va_nil) T.z_len bt_len) (ve_callB c_lenA (va_cons (ve_var 6) va_nil) T.z_len bt_len)) (ve_var 2)) (vss_one (vs_expr (ve_callM (ok_put_to T) tk (hr.mono (by decide)) T.g_put_to T.k_put_to T.b_put_to (vb_here 3 (va_cons (ve_bin o_add (ve_var 4) (ve_var 6)) (va_cons (ve_call (ok_times T) tk (hr.mono (by decide)) T.g_times T.k_times T.b_times (va_cons (ve_var 5) (va_cons (ve_var 7) va_nil))) va_nil)))))) vss_nil))))) (vss_one (vs_retO (ve_peekL (ve_call (ok_told_sum T) tk (hr.mono (by decide)) T.g_told_sum T.k_told_sum T.b_told_sum (va_cons (ve_var 3) va_nil)))))))

theorem ok_cut_joined (T : Txt P K mg) : FnOk P w K mg base (L2.CX P w) 39 T.a_cut_joined T.d_cut_joined ["count", "one", "other"] (spec K mg 3 none true m_cut_joined) := by
  refine @fn_by P w K mg base "cut_joined" "cut_joined" s_cut_joined T.a_cut_joined T.d_cut_joined nn_cut_joined ["count", "one", "other"] 38 3 none true b_cut_joined [false, false, false] [false, false, false] T.F_cut_joined sc_cut_joined rfl (fun _ => rfl) (os_ok rfl) rfl (.inr (nn_seq (nn_seq (nn_seq nn_ret)))) (fun cdv A outer s H E hr X eX tk hp => ?_)
  subst eX
  unfold b_cut_joined
  exact (vss_cons (vs_expr (ve_call (ok_check_count T) tk (hr.mono (by decide)) T.g_check_count T.k_check_count T.b_check_count (va_cons (ve_var 0) va_nil))) (vss_cons (vs_expr (ve_call (ok_check_sum T) tk (hr.mono (by decide)) T.g_check_sum T.k_check_sum T.b_check_sum (va_cons (ve_var 0) (va_cons (ve_var 1) va_nil)))) (vss_cons (vs_expr (ve_call (ok_check_sum T) tk (hr.mono (by decide)) T.g_check_sum T.k_check_sum T.b_check_sum (va_cons (ve_var 0) (va_cons (ve_var 2) va_nil)))) (vss_one (vs_retO (ve_call (ok_joined_short T) tk (hr.mono (by decide)) T.g_joined_short T.k_joined_short T.b_joined_short (va_cons (ve_var 1) (va_cons (ve_var 2) (va_cons (ve_konst T.c_MOST) va_nil)))))))))

theorem ok__law_plus (T : Txt P K mg) : FnOk P w K mg base (L2.CX P w) 35 T.a__law_plus T.d__law_plus ["_law_one", "_law_other"] (spec K mg 2 none false m__law_plus) := by
  refine @fn_by P w K mg base "_law_plus" "_law_plus" s__law_plus T.a__law_plus T.d__law_plus nn__law_plus ["_law_one", "_law_other"] 34 2 none false b__law_plus [false, false] [false, false] T.F__law_plus sc__law_plus rfl (fun _ => rfl) (os_ok rfl) rfl (.inl rfl) (fun cdv A outer s H E hr X eX tk hp => ?_)
  subst eX
  unfold b__law_plus
  exact (vss_one (vs_ret (ve_call (ok__law_low T) tk (hr.mono (by decide)) T.g__law_low T.k__law_low T.b__law_low (va_cons (ve_bin o_add (ve_bin o_mul (ve_ixA (hr.units) (ve_var 0) ve_int) (ve_ixA (hr.units) (ve_var 1) ve_int)) (ve_bin o_mul (ve_ixA (hr.units) (ve_var 1) ve_int) (ve_ixA (hr.units) (ve_var 0) ve_int))) (va_cons (ve_bin o_mul (ve_ixA (hr.units) (ve_var 0) ve_int) (ve_ixA (hr.units) (ve_var 1) ve_int)) va_nil)))))

theorem ok__law_put (T : Txt P K mg) : FnOk P w K mg base (L2.CX P w) 36 T.a__law_put T.d__law_put ["_law_found", "_law_word_here", "_law_number_here"] (spec K mg 3 (some 0) false m__law_put) := by
  refine @fn_by P w K mg base "_law_put" "_law_put" s__law_put T.a__law_put T.d__law_put nn__law_put ["_law_found", "_law_word_here", "_law_number_here"] 35 3 (some 0) false b__law_put [true, false, false] [true, false, false] T.F__law_put sc__law_put rfl (fun _ => rfl) (os_ok rfl) rfl (.inl rfl) (fun cdv A outer s H E hr X eX tk hp => ?_)
  subst eX
  unfold b__law_put
  exact (vss_cons (vs_setA (hr.units) 0 (ve_call (ok__law_plus T) tk (hr.mono (by decide)) T.g__law_plus T.k__law_plus T.b__law_plus (va_cons (ve_dgetO (hr.units) 0 (ve_var 1) (ve_tup (va_cons ve_int (va_cons ve_int va_nil)))) (va_cons (ve_var 2) va_nil))) (ve_var 1)) (vss_one (vs_if (vt_peek (vt_cmp (o_eq (hr.units)) (ve_ixA (hr.units) (ve_ixA (hr.units) (ve_var 0) (ve_var 1)) ve_int) ve_int)) (vss_one (vs_expr (ve_dpop (hr.units) 0 (ve_var 1)))) vss_nil)))

theorem ok__law_by (T : Txt P K mg) : FnOk P w K mg base (L2.CX P w) 35 T.a__law_by T.d__law_by ["_law_one", "_law_other"] (spec K mg 2 none false m__law_by) := by
  refine @fn_by P w K mg base "_law_by" "_law_by" s__law_by T.a__law_by T.d__law_by nn__law_by ["_law_one", "_law_other"] 34 2 none false b__law_by [false, false] [false, false] T.F__law_by sc__law_by rfl (fun _ => rfl) (os_ok rfl) rfl (.inl rfl) (fun cdv A outer s H E hr X eX tk hp => ?_)
  subst eX
  unfold b__law_by
  exact (vss_one (vs_ret (ve_call (ok__law_low T) tk (hr.mono (by decide)) T.g__law_low T.k__law_low T.b__law_low (va_cons (ve_bin o_mul (ve_ixA (hr.units) (ve_var 0) ve_int) (ve_ixA (hr.units) (ve_var 1) ve_int)) (va_cons (ve_bin o_mul (ve_ixA (hr.units) (ve_var 0) ve_int) (ve_ixA (hr.units) (ve_var 1) ve_int)) va_nil)))))

theorem ok__law_joined (T : Txt P K mg) : FnOk P w K mg base (L2.CX P w) 38 T.a__law_joined T.d__law_joined ["_law_one", "_law_other"] (spec K mg 2 none true m__law_joined) := by
  refine @fn_by P w K mg base "_law_joined" "_law_joined" s__law_joined T.a__law_joined T.d__law_joined nn__law_joined ["_law_one", "_law_other"] 37 2 none true b__law_joined [false, false, false, false, false, false, false] [false, false, false, false, false, false, false] T.F__law_joined sc__law_joined rfl (fun _ => rfl) (os_ok rfl) rfl (.inr (nn_seq (nn_seq nn_ret))) (fun cdv A outer s H E hr X eX tk hp => ?_)
  subst eX
  unfold b__law_joined
  exact (vss_cons (vs_setO 2 ve_dnew sc__law_joined.nd) (vss_cons (vs_for hp (vi_seqA (ve_var 0)) (vg_tup (vgs_cons (vg_name 3 sc__law_joined.nd) (vgs_cons (vg_name 4 sc__law_joined.nd) vgs_nil))) (vss_one (vs_for hp (vi_seqA (ve_var 1)) (vg_tup (vgs_cons (vg_name 5 sc__law_joined.nd) (vgs_cons (vg_name 6 sc__law_joined.nd) vgs_nil))) (vss_one (vs_if (vt_cmp (o_ltA (hr.units)) (ve_bin o_add (ve_callB c_lenA (va_cons (ve_var 3) va_nil) T.z_len bt_len) (ve_callB c_lenA (va_cons (ve_var 5) va_nil) T.z_len bt_len)) ve_int) (vss_one (vs_expr (ve_callM (ok__law_put T) tk (hr.mono (by decide)) T.g__law_put T.k__law_put T.b__law_put (vb_here 2 (va_cons (ve_bin o_add (ve_var 3) (ve_var 5)) (va_cons (ve_call (ok__law_by T) tk (hr.mono (by decide)) T.g__law_by T.k__law_by T.b__law_by (va_cons (ve_var 4) (va_cons (ve_var 6) va_nil))) va_nil)))))) vss_nil))))) (vss_one (vs_retO (ve_peekL (ve_call (ok__law_told T) tk (hr.mono (by decide)) T.g__law_told T.k__law_told T.b__law_told (va_cons (ve_var 2) va_nil)))))))

theorem ok_law (T : Txt P K mg) : FnG P w K mg base 40 T.a_law T.d_law ["_law_script"] (spec K mg 1 none false m_law) := by
  refine @fn_byG P w K mg base "law" "law" s_law T.a_law T.d_law nn_law ["_law_script"] 39 1 b_law [false, false, false, false, false, false, false, false, false, false] [false, false, false, false, false, false, false, false, false, false] T.F_law sc_law rfl (os_ok rfl) rfl (fun cdv A outer s H E hgd hr X eX tk hp => ?_)
  subst eX
  unfold b_law
  exact (vss_cons (vs_for hp (vi_range1 (va_cons (ve_callB (c_maxA rfl) (va_cons ve_int (va_cons (ve_callB (c_minA rfl) (va_cons (ve_callB c_lenA (va_cons (ve_var 0) va_nil) T.z_len bt_len) (va_cons ve_int va_nil)) T.z_min bt_min) va_nil)) T.z_max bt_max) va_nil) T.z_range) (vg_name 1 sc_law.nd) (VSs.fz (osN := [false, false, true, false, false, false, false, false, false, false]) 2 (vss_cons (vs_setO 2 (ve_call (ok__law_purse T) tk (hr.mono (by decide)) T.g__law_purse T.k__law_purse T.b__law_purse (va_cons (ve_call (ok__law_at T) tk (hr.mono (by decide)) T.g__law_at T.k__law_at T.b__law_at (va_cons (ve_var 0) (va_cons (ve_var 1) va_nil))) (va_cons (ve_var 1) va_nil))) sc_law.nd) (vss_cons (vs_set 3 (ve_bin o_add ve_int (ve_callM (ok__law_take T) tk (hr.mono (by decide)) T.g__law_take T.k__law_take T.b__law_take (vb_here 2 (va_cons ve_int va_nil)))) sc_law.nd) (vss_cons (vs_set 4 (VE.fz (ve_call (ok__law_told T) tk (hr.mono (by decide)) T.g__law_told T.k__law_told T.b__law_told (va_cons (VE.fz (ve_callM (ok__law_sum T) tk (hr.mono (by decide)) T.g__law_sum T.k__law_sum T.b__law_sum (vb_here 2 (va_cons (ve_var 3) (va_cons ve_int (va_cons ve_int va_nil)))))) va_nil))) sc_law.nd) (vss_cons (vs_set 5 (VE.fz (ve_call (ok__law_told T) tk (hr.mono (by decide)) T.g__law_told T.k__law_told T.b__law_told (va_cons (VE.fz (ve_callM (ok__law_sum T) tk (hr.mono (by decide)) T.g__law_sum T.k__law_sum T.b__law_sum (vb_here 2 (va_cons (ve_var 3) (va_cons ve_int (va_cons ve_int va_nil)))))) va_nil))) sc_law.nd) (vss_cons (vs_set 6 (VE.fz (ve_lstO (va_cons (VE.fz (ve_list (va_cons (ve_var 4) va_nil) rfl T.z_list)) (va_cons (VE.fz (ve_list (va_cons (ve_var 5) va_nil) rfl T.z_list)) va_nil)))) sc_law.nd) (vss_one (vs_for hp (vi_range1 (va_cons ve_int va_nil) T.z_range) (vg_name 7 sc_law.nd) (VSs.fz (osN := [false, false, true, false, false, false, false, false, false, true]) 9 (vss_cons (vs_set 8 (ve_ixA (hr.units) (VE.fz (ve_lstO (va_cons (VE.fz (ve_call (ok__law_joined T) tk (hr.mono (by decide)) T.g__law_joined T.k__law_joined T.b__law_joined (va_cons (ve_var 4) (va_cons (ve_var 5) va_nil)))) (va_cons (VE.fz (ve_call (ok__law_joined T) tk (hr.mono (by decide)) T.g__law_joined T.k__law_joined T.b__law_joined (va_cons (ve_var 5) (va_cons (ve_var 4) va_nil)))) va_nil)))) (ve_bin o_mod (ve_var 7) ve_int)) sc_law.nd) (vss_cons (vs_setO 9 (ve_call (ok_cut_joined T) tk (hr.mono (by decide)) T.g_cut_joined T.k_cut_joined T.b_cut_joined (va_cons (ve_var 3) (va_cons (ve_ixA (hr.units) (ve_var 6) (ve_bin o_mod (ve_var 7) ve_int)) (va_cons (ve_ixA (hr.units) (ve_var 6) (ve_bin o_sub ve_int (ve_bin o_mod (ve_var 7) ve_int))) va_nil)))) sc_law.nd) (vss_cons (vs_if (vt_peek (VW.vt (vw_or (vt_cmp (o_neS) (ve_callTy (c_str hgd hr.units) (va_cons (ve_var 9) va_nil) T.z_str bt_str) (ve_callTy (c_str hgd hr.units) (va_cons (ve_var 8) va_nil) T.z_str bt_str)) (vw_or1 (vt_cmp (o_ne (hr.units)) (ve_var 6) (VE.fz (ve_lstO (va_cons (ve_var 4) (va_cons (ve_var 5) va_nil))))))))) (vss_one (vs_ret ve_bl)) vss_nil) (vss_one (vs_expr (ve_ownM0 9 own_clear PySem.F.plainAttrs_list PySem.F.slot_list_clear PySem.F.type_list_clear)))))))))))))))) (vss_one (vs_ret ve_bl)))

end

theorem all_mk {l : PySem.W.OpenLaw} {w : World} {K : PySem.W.Frag} {h : Heap} {mg : Str → Option Value} {fa : Addr} (X : K.In h) (G : h.Ns mainGlobals mg) (hfa : mg "law" = some (.ref fa)) (tree : l.prog.given.tree = none)
    {f__law_mixed : Addr} {oc__law_mixed kV__law_mixed dc__law_mixed pm__law_mixed cd__law_mixed ct__law_mixed : Value} {od__law_mixed an__law_mixed : Option Addr} {sl__law_mixed : Array (Option Value)}
    {f__law_purse : Addr} {oc__law_purse kV__law_purse dc__law_purse pm__law_purse cd__law_purse ct__law_purse : Value} {od__law_purse an__law_purse : Option Addr} {sl__law_purse : Array (Option Value)}
    {f__law_rank : Addr} {oc__law_rank kV__law_rank dc__law_rank pm__law_rank cd__law_rank ct__law_rank : Value} {od__law_rank an__law_rank : Option Addr} {sl__law_rank : Array (Option Value)}
    {f__law_told : Addr} {oc__law_told kV__law_told dc__law_told pm__law_told cd__law_told ct__law_told : Value} {od__law_told an__law_told : Option Addr} {sl__law_told : Array (Option Value)}
    {f__law_at : Addr} {oc__law_at kV__law_at dc__law_at pm__law_at cd__law_at ct__law_at : Value} {od__law_at an__law_at : Option Addr} {sl__law_at : Array (Option Value)}
    {f__law_take : Addr} {oc__law_take kV__law_take dc__law_take pm__law_take cd__law_take ct__law_take : Value} {od__law_take an__law_take : Option Addr} {sl__law_take : Array (Option Value)}
    {f__law_word : Addr} {oc__law_word kV__law_word dc__law_word pm__law_word cd__law_word ct__law_word : Value} {od__law_word an__law_word : Option Addr} {sl__law_word : Array (Option Value)}
    {f__law_low : Addr} {oc__law_low kV__law_low dc__law_low pm__law_low cd__law_low ct__law_low : Value} {od__law_low an__law_low : Option Addr} {sl__law_low : Array (Option Value)}
    {f__law_number : Addr} {oc__law_number kV__law_number dc__law_number pm__law_number cd__law_number ct__law_number : Value} {od__law_number an__law_number : Option Addr} {sl__law_number : Array (Option Value)}
    {f__law_sum : Addr} {oc__law_sum kV__law_sum dc__law_sum pm__law_sum cd__law_sum ct__law_sum : Value} {od__law_sum an__law_sum : Option Addr} {sl__law_sum : Array (Option Value)}
    {f_is_whole : Addr} {oc_is_whole kV_is_whole dc_is_whole pm_is_whole cd_is_whole ct_is_whole : Value} {od_is_whole an_is_whole : Option Addr} {sl_is_whole : Array (Option Value)}
    {f_check_count : Addr} {oc_check_count kV_check_count dc_check_count pm_check_count cd_check_count ct_check_count : Value} {od_check_count an_check_count : Option Addr} {sl_check_count : Array (Option Value)}
    {f_is_word : Addr} {oc_is_word kV_is_word dc_is_word pm_is_word cd_is_word ct_is_word : Value} {od_is_word an_is_word : Option Addr} {sl_is_word : Array (Option Value)}
    {f_divisor : Addr} {oc_divisor kV_divisor dc_divisor pm_divisor cd_divisor ct_divisor : Value} {od_divisor an_divisor : Option Addr} {sl_divisor : Array (Option Value)}
    {f_is_number : Addr} {oc_is_number kV_is_number dc_is_number pm_is_number cd_is_number ct_is_number : Value} {od_is_number an_is_number : Option Addr} {sl_is_number : Array (Option Value)}
    {f_is_term : Addr} {oc_is_term kV_is_term dc_is_term pm_is_term cd_is_term ct_is_term : Value} {od_is_term an_is_term : Option Addr} {sl_is_term : Array (Option Value)}
    {f_rank : Addr} {oc_rank kV_rank dc_rank pm_rank cd_rank ct_rank : Value} {od_rank an_rank : Option Addr} {sl_rank : Array (Option Value)}
    {f_check_sum : Addr} {oc_check_sum kV_check_sum dc_check_sum pm_check_sum cd_check_sum ct_check_sum : Value} {od_check_sum an_check_sum : Option Addr} {sl_check_sum : Array (Option Value)}
    {f_told_sum : Addr} {oc_told_sum kV_told_sum dc_told_sum pm_told_sum cd_told_sum ct_told_sum : Value} {od_told_sum an_told_sum : Option Addr} {sl_told_sum : Array (Option Value)}
    {f_lowest : Addr} {oc_lowest kV_lowest dc_lowest pm_lowest cd_lowest ct_lowest : Value} {od_lowest an_lowest : Option Addr} {sl_lowest : Array (Option Value)}
    {f_plus : Addr} {oc_plus kV_plus dc_plus pm_plus cd_plus ct_plus : Value} {od_plus an_plus : Option Addr} {sl_plus : Array (Option Value)}
    {f_put_to : Addr} {oc_put_to kV_put_to dc_put_to pm_put_to cd_put_to ct_put_to : Value} {od_put_to an_put_to : Option Addr} {sl_put_to : Array (Option Value)}
    {f_times : Addr} {oc_times kV_times dc_times pm_times cd_times ct_times : Value} {od_times an_times : Option Addr} {sl_times : Array (Option Value)}
    {f_joined_short : Addr} {oc_joined_short kV_joined_short dc_joined_short pm_joined_short cd_joined_short ct_joined_short : Value} {od_joined_short an_joined_short : Option Addr} {sl_joined_short : Array (Option Value)}
    {f_cut_joined : Addr} {oc_cut_joined kV_cut_joined dc_cut_joined pm_cut_joined cd_cut_joined ct_cut_joined : Value} {od_cut_joined an_cut_joined : Option Addr} {sl_cut_joined : Array (Option Value)}
    {f__law_plus : Addr} {oc__law_plus kV__law_plus dc__law_plus pm__law_plus cd__law_plus ct__law_plus : Value} {od__law_plus an__law_plus : Option Addr} {sl__law_plus : Array (Option Value)}
    {f__law_put : Addr} {oc__law_put kV__law_put dc__law_put pm__law_put cd__law_put ct__law_put : Value} {od__law_put an__law_put : Option Addr} {sl__law_put : Array (Option Value)}
    {f__law_by : Addr} {oc__law_by kV__law_by dc__law_by pm__law_by cd__law_by ct__law_by : Value} {od__law_by an__law_by : Option Addr} {sl__law_by : Array (Option Value)}
    {f__law_joined : Addr} {oc__law_joined kV__law_joined dc__law_joined pm__law_joined cd__law_joined ct__law_joined : Value} {od__law_joined an__law_joined : Option Addr} {sl__law_joined : Array (Option Value)}
    {f_law : Addr} {oc_law kV_law dc_law pm_law cd_law ct_law : Value} {od_law an_law : Option Addr} {sl_law : Array (Option Value)}
    (seer : seerB K = true)
    (a__law_mixed : PySem.W.nsIn K mainGlobals "_law_mixed" = some (some (.ref f__law_mixed))) (l__law_mixed : K.lookup f__law_mixed = some ⟨oc__law_mixed, od__law_mixed, .func (PySem.W.fnOf "_law_mixed" "_law_mixed" (defArgs s__law_mixed) (defBody s__law_mixed) (defScope s__law_mixed) .none kV__law_mixed dc__law_mixed pm__law_mixed an__law_mixed cd__law_mixed ct__law_mixed), sl__law_mixed⟩) (c__law_mixed : PySem.W.codeIn K cd__law_mixed "_law_mixed" = true) (k__law_mixed : PySem.W.keepIn K (.ref f__law_mixed) = true)
    (a__law_purse : PySem.W.nsIn K mainGlobals "_law_purse" = some (some (.ref f__law_purse))) (l__law_purse : K.lookup f__law_purse = some ⟨oc__law_purse, od__law_purse, .func (PySem.W.fnOf "_law_purse" "_law_purse" (defArgs s__law_purse) (defBody s__law_purse) (defScope s__law_purse) .none kV__law_purse dc__law_purse pm__law_purse an__law_purse cd__law_purse ct__law_purse), sl__law_purse⟩) (c__law_purse : PySem.W.codeIn K cd__law_purse "_law_purse" = true) (k__law_purse : PySem.W.keepIn K (.ref f__law_purse) = true)
    (a__law_rank : PySem.W.nsIn K mainGlobals "_law_rank" = some (some (.ref f__law_rank))) (l__law_rank : K.lookup f__law_rank = some ⟨oc__law_rank, od__law_rank, .func (PySem.W.fnOf "_law_rank" "_law_rank" (defArgs s__law_rank) (defBody s__law_rank) (defScope s__law_rank) .none kV__law_rank dc__law_rank pm__law_rank an__law_rank cd__law_rank ct__law_rank), sl__law_rank⟩) (c__law_rank : PySem.W.codeIn K cd__law_rank "_law_rank" = true) (k__law_rank : PySem.W.keepIn K (.ref f__law_rank) = true)
    (a__law_told : PySem.W.nsIn K mainGlobals "_law_told" = some (some (.ref f__law_told))) (l__law_told : K.lookup f__law_told = some ⟨oc__law_told, od__law_told, .func (PySem.W.fnOf "_law_told" "_law_told" (defArgs s__law_told) (defBody s__law_told) (defScope s__law_told) .none kV__law_told dc__law_told pm__law_told an__law_told cd__law_told ct__law_told), sl__law_told⟩) (c__law_told : PySem.W.codeIn K cd__law_told "_law_told" = true) (k__law_told : PySem.W.keepIn K (.ref f__law_told) = true)
    (a__law_at : PySem.W.nsIn K mainGlobals "_law_at" = some (some (.ref f__law_at))) (l__law_at : K.lookup f__law_at = some ⟨oc__law_at, od__law_at, .func (PySem.W.fnOf "_law_at" "_law_at" (defArgs s__law_at) (defBody s__law_at) (defScope s__law_at) .none kV__law_at dc__law_at pm__law_at an__law_at cd__law_at ct__law_at), sl__law_at⟩) (c__law_at : PySem.W.codeIn K cd__law_at "_law_at" = true) (k__law_at : PySem.W.keepIn K (.ref f__law_at) = true)
    (a__law_take : PySem.W.nsIn K mainGlobals "_law_take" = some (some (.ref f__law_take))) (l__law_take : K.lookup f__law_take = some ⟨oc__law_take, od__law_take, .func (PySem.W.fnOf "_law_take" "_law_take" (defArgs s__law_take) (defBody s__law_take) (defScope s__law_take) .none kV__law_take dc__law_take pm__law_take an__law_take cd__law_take ct__law_take), sl__law_take⟩) (c__law_take : PySem.W.codeIn K cd__law_take "_law_take" = true) (k__law_take : PySem.W.keepIn K (.ref f__law_take) = true)
    (a__law_word : PySem.W.nsIn K mainGlobals "_law_word" = some (some (.ref f__law_word))) (l__law_word : K.lookup f__law_word = some ⟨oc__law_word, od__law_word, .func (PySem.W.fnOf "_law_word" "_law_word" (defArgs s__law_word) (defBody s__law_word) (defScope s__law_word) .none kV__law_word dc__law_word pm__law_word an__law_word cd__law_word ct__law_word), sl__law_word⟩) (c__law_word : PySem.W.codeIn K cd__law_word "_law_word" = true) (k__law_word : PySem.W.keepIn K (.ref f__law_word) = true)
    (a__law_low : PySem.W.nsIn K mainGlobals "_law_low" = some (some (.ref f__law_low))) (l__law_low : K.lookup f__law_low = some ⟨oc__law_low, od__law_low, .func (PySem.W.fnOf "_law_low" "_law_low" (defArgs s__law_low) (defBody s__law_low) (defScope s__law_low) .none kV__law_low dc__law_low pm__law_low an__law_low cd__law_low ct__law_low), sl__law_low⟩) (c__law_low : PySem.W.codeIn K cd__law_low "_law_low" = true) (k__law_low : PySem.W.keepIn K (.ref f__law_low) = true)
    (a__law_number : PySem.W.nsIn K mainGlobals "_law_number" = some (some (.ref f__law_number))) (l__law_number : K.lookup f__law_number = some ⟨oc__law_number, od__law_number, .func (PySem.W.fnOf "_law_number" "_law_number" (defArgs s__law_number) (defBody s__law_number) (defScope s__law_number) .none kV__law_number dc__law_number pm__law_number an__law_number cd__law_number ct__law_number), sl__law_number⟩) (c__law_number : PySem.W.codeIn K cd__law_number "_law_number" = true) (k__law_number : PySem.W.keepIn K (.ref f__law_number) = true)
    (a__law_sum : PySem.W.nsIn K mainGlobals "_law_sum" = some (some (.ref f__law_sum))) (l__law_sum : K.lookup f__law_sum = some ⟨oc__law_sum, od__law_sum, .func (PySem.W.fnOf "_law_sum" "_law_sum" (defArgs s__law_sum) (defBody s__law_sum) (defScope s__law_sum) .none kV__law_sum dc__law_sum pm__law_sum an__law_sum cd__law_sum ct__law_sum), sl__law_sum⟩) (c__law_sum : PySem.W.codeIn K cd__law_sum "_law_sum" = true) (k__law_sum : PySem.W.keepIn K (.ref f__law_sum) = true)
    (a_is_whole : PySem.W.nsIn K mainGlobals "is_whole" = some (some (.ref f_is_whole))) (l_is_whole : K.lookup f_is_whole = some ⟨oc_is_whole, od_is_whole, .func (PySem.W.fnOf "is_whole" "is_whole" (defArgs s_is_whole) (defBody s_is_whole) (defScope s_is_whole) .none kV_is_whole dc_is_whole pm_is_whole an_is_whole cd_is_whole ct_is_whole), sl_is_whole⟩) (c_is_whole : PySem.W.codeIn K cd_is_whole "is_whole" = true) (k_is_whole : PySem.W.keepIn K (.ref f_is_whole) = true)
    (a_check_count : PySem.W.nsIn K mainGlobals "check_count" = some (some (.ref f_check_count))) (l_check_count : K.lookup f_check_count = some ⟨oc_check_count, od_check_count, .func (PySem.W.fnOf "check_count" "check_count" (defArgs s_check_count) (defBody s_check_count) (defScope s_check_count) .none kV_check_count dc_check_count pm_check_count an_check_count cd_check_count ct_check_count), sl_check_count⟩) (c_check_count : PySem.W.codeIn K cd_check_count "check_count" = true) (k_check_count : PySem.W.keepIn K (.ref f_check_count) = true)
    (a_is_word : PySem.W.nsIn K mainGlobals "is_word" = some (some (.ref f_is_word))) (l_is_word : K.lookup f_is_word = some ⟨oc_is_word, od_is_word, .func (PySem.W.fnOf "is_word" "is_word" (defArgs s_is_word) (defBody s_is_word) (defScope s_is_word) .none kV_is_word dc_is_word pm_is_word an_is_word cd_is_word ct_is_word), sl_is_word⟩) (c_is_word : PySem.W.codeIn K cd_is_word "is_word" = true) (k_is_word : PySem.W.keepIn K (.ref f_is_word) = true)
    (a_divisor : PySem.W.nsIn K mainGlobals "divisor" = some (some (.ref f_divisor))) (l_divisor : K.lookup f_divisor = some ⟨oc_divisor, od_divisor, .func (PySem.W.fnOf "divisor" "divisor" (defArgs s_divisor) (defBody s_divisor) (defScope s_divisor) .none kV_divisor dc_divisor pm_divisor an_divisor cd_divisor ct_divisor), sl_divisor⟩) (c_divisor : PySem.W.codeIn K cd_divisor "divisor" = true) (k_divisor : PySem.W.keepIn K (.ref f_divisor) = true)
    (a_is_number : PySem.W.nsIn K mainGlobals "is_number" = some (some (.ref f_is_number))) (l_is_number : K.lookup f_is_number = some ⟨oc_is_number, od_is_number, .func (PySem.W.fnOf "is_number" "is_number" (defArgs s_is_number) (defBody s_is_number) (defScope s_is_number) .none kV_is_number dc_is_number pm_is_number an_is_number cd_is_number ct_is_number), sl_is_number⟩) (c_is_number : PySem.W.codeIn K cd_is_number "is_number" = true) (k_is_number : PySem.W.keepIn K (.ref f_is_number) = true)
    (a_is_term : PySem.W.nsIn K mainGlobals "is_term" = some (some (.ref f_is_term))) (l_is_term : K.lookup f_is_term = some ⟨oc_is_term, od_is_term, .func (PySem.W.fnOf "is_term" "is_term" (defArgs s_is_term) (defBody s_is_term) (defScope s_is_term) .none kV_is_term dc_is_term pm_is_term an_is_term cd_is_term ct_is_term), sl_is_term⟩) (c_is_term : PySem.W.codeIn K cd_is_term "is_term" = true) (k_is_term : PySem.W.keepIn K (.ref f_is_term) = true)
    (a_rank : PySem.W.nsIn K mainGlobals "rank" = some (some (.ref f_rank))) (l_rank : K.lookup f_rank = some ⟨oc_rank, od_rank, .func (PySem.W.fnOf "rank" "rank" (defArgs s_rank) (defBody s_rank) (defScope s_rank) .none kV_rank dc_rank pm_rank an_rank cd_rank ct_rank), sl_rank⟩) (c_rank : PySem.W.codeIn K cd_rank "rank" = true) (k_rank : PySem.W.keepIn K (.ref f_rank) = true)
    (a_check_sum : PySem.W.nsIn K mainGlobals "check_sum" = some (some (.ref f_check_sum))) (l_check_sum : K.lookup f_check_sum = some ⟨oc_check_sum, od_check_sum, .func (PySem.W.fnOf "check_sum" "check_sum" (defArgs s_check_sum) (defBody s_check_sum) (defScope s_check_sum) .none kV_check_sum dc_check_sum pm_check_sum an_check_sum cd_check_sum ct_check_sum), sl_check_sum⟩) (c_check_sum : PySem.W.codeIn K cd_check_sum "check_sum" = true) (k_check_sum : PySem.W.keepIn K (.ref f_check_sum) = true)
    (a_told_sum : PySem.W.nsIn K mainGlobals "told_sum" = some (some (.ref f_told_sum))) (l_told_sum : K.lookup f_told_sum = some ⟨oc_told_sum, od_told_sum, .func (PySem.W.fnOf "told_sum" "told_sum" (defArgs s_told_sum) (defBody s_told_sum) (defScope s_told_sum) .none kV_told_sum dc_told_sum pm_told_sum an_told_sum cd_told_sum ct_told_sum), sl_told_sum⟩) (c_told_sum : PySem.W.codeIn K cd_told_sum "told_sum" = true) (k_told_sum : PySem.W.keepIn K (.ref f_told_sum) = true)
    (a_lowest : PySem.W.nsIn K mainGlobals "lowest" = some (some (.ref f_lowest))) (l_lowest : K.lookup f_lowest = some ⟨oc_lowest, od_lowest, .func (PySem.W.fnOf "lowest" "lowest" (defArgs s_lowest) (defBody s_lowest) (defScope s_lowest) .none kV_lowest dc_lowest pm_lowest an_lowest cd_lowest ct_lowest), sl_lowest⟩) (c_lowest : PySem.W.codeIn K cd_lowest "lowest" = true) (k_lowest : PySem.W.keepIn K (.ref f_lowest) = true)
    (a_plus : PySem.W.nsIn K mainGlobals "plus" = some (some (.ref f_plus))) (l_plus : K.lookup f_plus = some ⟨oc_plus, od_plus, .func (PySem.W.fnOf "plus" "plus" (defArgs s_plus) (defBody s_plus) (defScope s_plus) .none kV_plus dc_plus pm_plus an_plus cd_plus ct_plus), sl_plus⟩) (c_plus : PySem.W.codeIn K cd_plus "plus" = true) (k_plus : PySem.W.keepIn K (.ref f_plus) = true)
    (a_put_to : PySem.W.nsIn K mainGlobals "put_to" = some (some (.ref f_put_to))) (l_put_to : K.lookup f_put_to = some ⟨oc_put_to, od_put_to, .func (PySem.W.fnOf "put_to" "put_to" (defArgs s_put_to) (defBody s_put_to) (defScope s_put_to) .none kV_put_to dc_put_to pm_put_to an_put_to cd_put_to ct_put_to), sl_put_to⟩) (c_put_to : PySem.W.codeIn K cd_put_to "put_to" = true) (k_put_to : PySem.W.keepIn K (.ref f_put_to) = true)
    (a_times : PySem.W.nsIn K mainGlobals "times" = some (some (.ref f_times))) (l_times : K.lookup f_times = some ⟨oc_times, od_times, .func (PySem.W.fnOf "times" "times" (defArgs s_times) (defBody s_times) (defScope s_times) .none kV_times dc_times pm_times an_times cd_times ct_times), sl_times⟩) (c_times : PySem.W.codeIn K cd_times "times" = true) (k_times : PySem.W.keepIn K (.ref f_times) = true)
    (a_joined_short : PySem.W.nsIn K mainGlobals "joined_short" = some (some (.ref f_joined_short))) (l_joined_short : K.lookup f_joined_short = some ⟨oc_joined_short, od_joined_short, .func (PySem.W.fnOf "joined_short" "joined_short" (defArgs s_joined_short) (defBody s_joined_short) (defScope s_joined_short) .none kV_joined_short dc_joined_short pm_joined_short an_joined_short cd_joined_short ct_joined_short), sl_joined_short⟩) (c_joined_short : PySem.W.codeIn K cd_joined_short "joined_short" = true) (k_joined_short : PySem.W.keepIn K (.ref f_joined_short) = true)
    (a_cut_joined : PySem.W.nsIn K mainGlobals "cut_joined" = some (some (.ref f_cut_joined))) (l_cut_joined : K.lookup f_cut_joined = some ⟨oc_cut_joined, od_cut_joined, .func (PySem.W.fnOf "cut_joined" "cut_joined" (defArgs s_cut_joined) (defBody s_cut_joined) (defScope s_cut_joined) .none kV_cut_joined dc_cut_joined pm_cut_joined an_cut_joined cd_cut_joined ct_cut_joined), sl_cut_joined⟩) (c_cut_joined : PySem.W.codeIn K cd_cut_joined "cut_joined" = true) (k_cut_joined : PySem.W.keepIn K (.ref f_cut_joined) = true)
    (a__law_plus : PySem.W.nsIn K mainGlobals "_law_plus" = some (some (.ref f__law_plus))) (l__law_plus : K.lookup f__law_plus = some ⟨oc__law_plus, od__law_plus, .func (PySem.W.fnOf "_law_plus" "_law_plus" (defArgs s__law_plus) (defBody s__law_plus) (defScope s__law_plus) .none kV__law_plus dc__law_plus pm__law_plus an__law_plus cd__law_plus ct__law_plus), sl__law_plus⟩) (c__law_plus : PySem.W.codeIn K cd__law_plus "_law_plus" = true) (k__law_plus : PySem.W.keepIn K (.ref f__law_plus) = true)
    (a__law_put : PySem.W.nsIn K mainGlobals "_law_put" = some (some (.ref f__law_put))) (l__law_put : K.lookup f__law_put = some ⟨oc__law_put, od__law_put, .func (PySem.W.fnOf "_law_put" "_law_put" (defArgs s__law_put) (defBody s__law_put) (defScope s__law_put) .none kV__law_put dc__law_put pm__law_put an__law_put cd__law_put ct__law_put), sl__law_put⟩) (c__law_put : PySem.W.codeIn K cd__law_put "_law_put" = true) (k__law_put : PySem.W.keepIn K (.ref f__law_put) = true)
    (a__law_by : PySem.W.nsIn K mainGlobals "_law_by" = some (some (.ref f__law_by))) (l__law_by : K.lookup f__law_by = some ⟨oc__law_by, od__law_by, .func (PySem.W.fnOf "_law_by" "_law_by" (defArgs s__law_by) (defBody s__law_by) (defScope s__law_by) .none kV__law_by dc__law_by pm__law_by an__law_by cd__law_by ct__law_by), sl__law_by⟩) (c__law_by : PySem.W.codeIn K cd__law_by "_law_by" = true) (k__law_by : PySem.W.keepIn K (.ref f__law_by) = true)
    (a__law_joined : PySem.W.nsIn K mainGlobals "_law_joined" = some (some (.ref f__law_joined))) (l__law_joined : K.lookup f__law_joined = some ⟨oc__law_joined, od__law_joined, .func (PySem.W.fnOf "_law_joined" "_law_joined" (defArgs s__law_joined) (defBody s__law_joined) (defScope s__law_joined) .none kV__law_joined dc__law_joined pm__law_joined an__law_joined cd__law_joined ct__law_joined), sl__law_joined⟩) (c__law_joined : PySem.W.codeIn K cd__law_joined "_law_joined" = true) (k__law_joined : PySem.W.keepIn K (.ref f__law_joined) = true)
    (a_law : PySem.W.nsIn K mainGlobals "law" = some (some (.ref f_law))) (l_law : K.lookup f_law = some ⟨oc_law, od_law, .func (PySem.W.fnOf "law" "law" (defArgs s_law) (defBody s_law) (defScope s_law) .none kV_law dc_law pm_law an_law cd_law ct_law), sl_law⟩) (c_law : PySem.W.codeIn K cd_law "law" = true) (k_law : PySem.W.keepIn K (.ref f_law) = true)
    (z_abs : PySem.W.nsIn K mainGlobals "abs" = some none)
    (z_bool : PySem.W.nsIn K mainGlobals "bool" = some none)
    (z_enumerate : PySem.W.nsIn K mainGlobals "enumerate" = some none)
    (z_int : PySem.W.nsIn K mainGlobals "int" = some none)
    (z_isinstance : PySem.W.nsIn K mainGlobals "isinstance" = some none)
    (z_len : PySem.W.nsIn K mainGlobals "len" = some none)
    (z_list : PySem.W.nsIn K mainGlobals "list" = some none)
    (z_max : PySem.W.nsIn K mainGlobals "max" = some none)
    (z_min : PySem.W.nsIn K mainGlobals "min" = some none)
    (z_range : PySem.W.nsIn K mainGlobals "range" = some none)
    (z_sorted : PySem.W.nsIn K mainGlobals "sorted" = some none)
    (z_str : PySem.W.nsIn K mainGlobals "str" = some none)
    (z_tuple : PySem.W.nsIn K mainGlobals "tuple" = some none)
    (y_MOST : Konst K mg "MOST" k_MOST)
    (y_MOST_LETTERS : Konst K mg "MOST_LETTERS" k_MOST_LETTERS)
    (y_NOUGHT : Konst K mg "NOUGHT" k_NOUGHT) :
    ∃ fd : FuncData, (∀ (s : Shared) (v : Value), BindsTo s fd ⟨[v], []⟩ [("_law_script", v)]) ∧ ∀ base : Heap, K.In base → base.Ns mainGlobals mg → FnG l.prog w K mg base 40 fa fd ["_law_script"] (specL K m_law) := by
  have e := hfa.symm.trans (PySem.W.mg_of X G a_law)
  cases e
  have F__law_mixed := fun_mk (st := s__law_mixed) l__law_mixed c__law_mixed k__law_mixed
  have F__law_purse := fun_mk (st := s__law_purse) l__law_purse c__law_purse k__law_purse
  have F__law_rank := fun_mk (st := s__law_rank) l__law_rank c__law_rank k__law_rank
  have F__law_told := fun_mk (st := s__law_told) l__law_told c__law_told k__law_told
  have F__law_at := fun_mk (st := s__law_at) l__law_at c__law_at k__law_at
  have F__law_take := fun_mk (st := s__law_take) l__law_take c__law_take k__law_take
  have F__law_word := fun_mk (st := s__law_word) l__law_word c__law_word k__law_word
  have F__law_low := fun_mk (st := s__law_low) l__law_low c__law_low k__law_low
  have F__law_number := fun_mk (st := s__law_number) l__law_number c__law_number k__law_number
  have F__law_sum := fun_mk (st := s__law_sum) l__law_sum c__law_sum k__law_sum
  have F_is_whole := fun_mk (st := s_is_whole) l_is_whole c_is_whole k_is_whole
  have F_check_count := fun_mk (st := s_check_count) l_check_count c_check_count k_check_count
  have F_is_word := fun_mk (st := s_is_word) l_is_word c_is_word k_is_word
  have F_divisor := fun_mk (st := s_divisor) l_divisor c_divisor k_divisor
  have F_is_number := fun_mk (st := s_is_number) l_is_number c_is_number k_is_number
  have F_is_term := fun_mk (st := s_is_term) l_is_term c_is_term k_is_term
  have F_rank := fun_mk (st := s_rank) l_rank c_rank k_rank
  have F_check_sum := fun_mk (st := s_check_sum) l_check_sum c_check_sum k_check_sum
  have F_told_sum := fun_mk (st := s_told_sum) l_told_sum c_told_sum k_told_sum
  have F_lowest := fun_mk (st := s_lowest) l_lowest c_lowest k_lowest
  have F_plus := fun_mk (st := s_plus) l_plus c_plus k_plus
  have F_put_to := fun_mk (st := s_put_to) l_put_to c_put_to k_put_to
  have F_times := fun_mk (st := s_times) l_times c_times k_times
  have F_joined_short := fun_mk (st := s_joined_short) l_joined_short c_joined_short k_joined_short
  have F_cut_joined := fun_mk (st := s_cut_joined) l_cut_joined c_cut_joined k_cut_joined
  have F__law_plus := fun_mk (st := s__law_plus) l__law_plus c__law_plus k__law_plus
  have F__law_put := fun_mk (st := s__law_put) l__law_put c__law_put k__law_put
  have F__law_by := fun_mk (st := s__law_by) l__law_by c__law_by k__law_by
  have F__law_joined := fun_mk (st := s__law_joined) l__law_joined c__law_joined k__law_joined
  have F_law := fun_mk (st := s_law) l_law c_law k_law
  have b__law_mixed := F__law_mixed.binds (ps := ["_law_cell", "_law_k"]) fun _ _ _ _ _ _ us hl => match us, hl with | [_, _], _ => rfl
  have b__law_purse := F__law_purse.binds (ps := ["_law_cell", "_law_k"]) fun _ _ _ _ _ _ us hl => match us, hl with | [_, _], _ => rfl
  have b__law_rank := F__law_rank.binds (ps := ["_law_word_here"]) fun _ _ _ _ _ _ us hl => match us, hl with | [_], _ => rfl
  have b__law_told := F__law_told.binds (ps := ["_law_found"]) fun _ _ _ _ _ _ us hl => match us, hl with | [_], _ => rfl
  have b__law_at := F__law_at.binds (ps := ["_law_script", "_law_k"]) fun _ _ _ _ _ _ us hl => match us, hl with | [_, _], _ => rfl
  have b__law_take := F__law_take.binds (ps := ["_law_purse_here", "_law_many"]) fun _ _ _ _ _ _ us hl => match us, hl with | [_, _], _ => rfl
  have b__law_word := F__law_word.binds (ps := ["_law_purse_here", "_law_count", "_law_most"]) fun _ _ _ _ _ _ us hl => match us, hl with | [_, _, _], _ => rfl
  have b__law_low := F__law_low.binds (ps := ["_law_top", "_law_bottom"]) fun _ _ _ _ _ _ us hl => match us, hl with | [_, _], _ => rfl
  have b__law_number := F__law_number.binds (ps := ["_law_purse_here"]) fun _ _ _ _ _ _ us hl => match us, hl with | [_], _ => rfl
  have b__law_sum := F__law_sum.binds (ps := ["_law_purse_here", "_law_count", "_law_many", "_law_most"]) fun _ _ _ _ _ _ us hl => match us, hl with | [_, _, _, _], _ => rfl
  have b_is_whole := F_is_whole.binds (ps := ["one"]) fun _ _ _ _ _ _ us hl => match us, hl with | [_], _ => rfl
  have b_check_count := F_check_count.binds (ps := ["count"]) fun _ _ _ _ _ _ us hl => match us, hl with | [_], _ => rfl
  have b_is_word := F_is_word.binds (ps := ["word", "count"]) fun _ _ _ _ _ _ us hl => match us, hl with | [_, _], _ => rfl
  have b_divisor := F_divisor.binds (ps := ["one", "other"]) fun _ _ _ _ _ _ us hl => match us, hl with | [_, _], _ => rfl
  have b_is_number := F_is_number.binds (ps := ["one"]) fun _ _ _ _ _ _ us hl => match us, hl with | [_], _ => rfl
  have b_is_term := F_is_term.binds (ps := ["told", "count"]) fun _ _ _ _ _ _ us hl => match us, hl with | [_, _], _ => rfl
  have b_rank := F_rank.binds (ps := ["word"]) fun _ _ _ _ _ _ us hl => match us, hl with | [_], _ => rfl
  have b_check_sum := F_check_sum.binds (ps := ["count", "total"]) fun _ _ _ _ _ _ us hl => match us, hl with | [_, _], _ => rfl
  have b_told_sum := F_told_sum.binds (ps := ["numbers"]) fun _ _ _ _ _ _ us hl => match us, hl with | [_], _ => rfl
  have b_lowest := F_lowest.binds (ps := ["top", "bottom"]) fun _ _ _ _ _ _ us hl => match us, hl with | [_, _], _ => rfl
  have b_plus := F_plus.binds (ps := ["one", "other"]) fun _ _ _ _ _ _ us hl => match us, hl with | [_, _], _ => rfl
  have b_put_to := F_put_to.binds (ps := ["numbers", "word", "number"]) fun _ _ _ _ _ _ us hl => match us, hl with | [_, _, _], _ => rfl
  have b_times := F_times.binds (ps := ["one", "other"]) fun _ _ _ _ _ _ us hl => match us, hl with | [_, _], _ => rfl
  have b_joined_short := F_joined_short.binds (ps := ["one", "other", "most"]) fun _ _ _ _ _ _ us hl => match us, hl with | [_, _, _], _ => rfl
  have b_cut_joined := F_cut_joined.binds (ps := ["count", "one", "other"]) fun _ _ _ _ _ _ us hl => match us, hl with | [_, _, _], _ => rfl
  have b__law_plus := F__law_plus.binds (ps := ["_law_one", "_law_other"]) fun _ _ _ _ _ _ us hl => match us, hl with | [_, _], _ => rfl
  have b__law_put := F__law_put.binds (ps := ["_law_found", "_law_word_here", "_law_number_here"]) fun _ _ _ _ _ _ us hl => match us, hl with | [_, _, _], _ => rfl
  have b__law_by := F__law_by.binds (ps := ["_law_one", "_law_other"]) fun _ _ _ _ _ _ us hl => match us, hl with | [_, _], _ => rfl
  have b__law_joined := F__law_joined.binds (ps := ["_law_one", "_law_other"]) fun _ _ _ _ _ _ us hl => match us, hl with | [_, _], _ => rfl
  have b_law := F_law.binds (ps := ["_law_script"]) fun _ _ _ _ _ _ us hl => match us, hl with | [_], _ => rfl
  refine ⟨PySem.W.fnOf "law" "law" (defArgs s_law) (defBody s_law) (defScope s_law) .none kV_law dc_law pm_law an_law cd_law ct_law, fun s v => .of_eq rfl, fun base _ _ => (@ok_law l.prog w K mg base {
    seer := seer, tree := tree,
    a__law_mixed := _, d__law_mixed := _, F__law_mixed := F__law_mixed, g__law_mixed := PySem.W.mg_of X G a__law_mixed, k__law_mixed := k__law_mixed, b__law_mixed := b__law_mixed,
    a__law_purse := _, d__law_purse := _, F__law_purse := F__law_purse, g__law_purse := PySem.W.mg_of X G a__law_purse, k__law_purse := k__law_purse, b__law_purse := b__law_purse,
    a__law_rank := _, d__law_rank := _, F__law_rank := F__law_rank, g__law_rank := PySem.W.mg_of X G a__law_rank, k__law_rank := k__law_rank, b__law_rank := b__law_rank,
    a__law_told := _, d__law_told := _, F__law_told := F__law_told, g__law_told := PySem.W.mg_of X G a__law_told, k__law_told := k__law_told, b__law_told := b__law_told,
    a__law_at := _, d__law_at := _, F__law_at := F__law_at, g__law_at := PySem.W.mg_of X G a__law_at, k__law_at := k__law_at, b__law_at := b__law_at,
    a__law_take := _, d__law_take := _, F__law_take := F__law_take, g__law_take := PySem.W.mg_of X G a__law_take, k__law_take := k__law_take, b__law_take := b__law_take,
    a__law_word := _, d__law_word := _, F__law_word := F__law_word, g__law_word := PySem.W.mg_of X G a__law_word, k__law_word := k__law_word, b__law_word := b__law_word,
    a__law_low := _, d__law_low := _, F__law_low := F__law_low, g__law_low := PySem.W.mg_of X G a__law_low, k__law_low := k__law_low, b__law_low := b__law_low,
    a__law_number := _, d__law_number := _, F__law_number := F__law_number, g__law_number := PySem.W.mg_of X G a__law_number, k__law_number := k__law_number, b__law_number := b__law_number,
    a__law_sum := _, d__law_sum := _, F__law_sum := F__law_sum, g__law_sum := PySem.W.mg_of X G a__law_sum, k__law_sum := k__law_sum, b__law_sum := b__law_sum,
    a_is_whole := _, d_is_whole := _, F_is_whole := F_is_whole, g_is_whole := PySem.W.mg_of X G a_is_whole, k_is_whole := k_is_whole, b_is_whole := b_is_whole,
    a_check_count := _, d_check_count := _, F_check_count := F_check_count, g_check_count := PySem.W.mg_of X G a_check_count, k_check_count := k_check_count, b_check_count := b_check_count,
    a_is_word := _, d_is_word := _, F_is_word := F_is_word, g_is_word := PySem.W.mg_of X G a_is_word, k_is_word := k_is_word, b_is_word := b_is_word,
    a_divisor := _, d_divisor := _, F_divisor := F_divisor, g_divisor := PySem.W.mg_of X G a_divisor, k_divisor := k_divisor, b_divisor := b_divisor,
    a_is_number := _, d_is_number := _, F_is_number := F_is_number, g_is_number := PySem.W.mg_of X G a_is_number, k_is_number := k_is_number, b_is_number := b_is_number,
    a_is_term := _, d_is_term := _, F_is_term := F_is_term, g_is_term := PySem.W.mg_of X G a_is_term, k_is_term := k_is_term, b_is_term := b_is_term,
    a_rank := _, d_rank := _, F_rank := F_rank, g_rank := PySem.W.mg_of X G a_rank, k_rank := k_rank, b_rank := b_rank,
    a_check_sum := _, d_check_sum := _, F_check_sum := F_check_sum, g_check_sum := PySem.W.mg_of X G a_check_sum, k_check_sum := k_check_sum, b_check_sum := b_check_sum,
    a_told_sum := _, d_told_sum := _, F_told_sum := F_told_sum, g_told_sum := PySem.W.mg_of X G a_told_sum, k_told_sum := k_told_sum, b_told_sum := b_told_sum,
    a_lowest := _, d_lowest := _, F_lowest := F_lowest, g_lowest := PySem.W.mg_of X G a_lowest, k_lowest := k_lowest, b_lowest := b_lowest,
    a_plus := _, d_plus := _, F_plus := F_plus, g_plus := PySem.W.mg_of X G a_plus, k_plus := k_plus, b_plus := b_plus,
    a_put_to := _, d_put_to := _, F_put_to := F_put_to, g_put_to := PySem.W.mg_of X G a_put_to, k_put_to := k_put_to, b_put_to := b_put_to,
    a_times := _, d_times := _, F_times := F_times, g_times := PySem.W.mg_of X G a_times, k_times := k_times, b_times := b_times,
    a_joined_short := _, d_joined_short := _, F_joined_short := F_joined_short, g_joined_short := PySem.W.mg_of X G a_joined_short, k_joined_short := k_joined_short, b_joined_short := b_joined_short,
    a_cut_joined := _, d_cut_joined := _, F_cut_joined := F_cut_joined, g_cut_joined := PySem.W.mg_of X G a_cut_joined, k_cut_joined := k_cut_joined, b_cut_joined := b_cut_joined,
    a__law_plus := _, d__law_plus := _, F__law_plus := F__law_plus, g__law_plus := PySem.W.mg_of X G a__law_plus, k__law_plus := k__law_plus, b__law_plus := b__law_plus,
    a__law_put := _, d__law_put := _, F__law_put := F__law_put, g__law_put := PySem.W.mg_of X G a__law_put, k__law_put := k__law_put, b__law_put := b__law_put,
    a__law_by := _, d__law_by := _, F__law_by := F__law_by, g__law_by := PySem.W.mg_of X G a__law_by, k__law_by := k__law_by, b__law_by := b__law_by,
    a__law_joined := _, d__law_joined := _, F__law_joined := F__law_joined, g__law_joined := PySem.W.mg_of X G a__law_joined, k__law_joined := k__law_joined, b__law_joined := b__law_joined,
    a_law := _, d_law := _, F_law := F_law, g_law := PySem.W.mg_of X G a_law, k_law := k_law, b_law := b_law,
    z_abs := PySem.W.mg_none_of X G z_abs,
    z_bool := PySem.W.mg_none_of X G z_bool,
    z_enumerate := PySem.W.mg_none_of X G z_enumerate,
    z_int := PySem.W.mg_none_of X G z_int,
    z_isinstance := PySem.W.mg_none_of X G z_isinstance,
    z_len := PySem.W.mg_none_of X G z_len,
    z_list := PySem.W.mg_none_of X G z_list,
    z_max := PySem.W.mg_none_of X G z_max,
    z_min := PySem.W.mg_none_of X G z_min,
    z_range := PySem.W.mg_none_of X G z_range,
    z_sorted := PySem.W.mg_none_of X G z_sorted,
    z_str := PySem.W.mg_none_of X G z_str,
    z_tuple := PySem.W.mg_none_of X G z_tuple,
    c_MOST := y_MOST,
    c_MOST_LETTERS := y_MOST_LETTERS,
    c_NOUGHT := y_NOUGHT }).imp specL_imp⟩
theorem facts {w : World} {K : PySem.W.Frag} {h : Heap} {mg : Str → Option Value} {fa : Addr} (X : K.In h) (G : h.Ns mainGlobals mg) (hfa : mg "law" = some (.ref fa)) (c : SaysS fk fns K) :
    ∃ fd : FuncData, (∀ (s : Shared) (v : Value), BindsTo s fd ⟨[v], []⟩ [("_law_script", v)]) ∧ ∀ base : Heap, K.In base → base.Ns mainGlobals mg → FnG PySem.Challenge.rw_swaprest_k57_letters_joined_and_cut.prog w K mg base 40 fa fd ["_law_script"] (specL K m_law) := by
  have hf := c.fkt
  unfold fk at hf
  simp only [Bool.and_eq_true] at hf
  obtain ⟨q0, q1, q2, q3⟩ := hf
  obtain ⟨h_seer, h_a__law_mixed, h_k__law_mixed, h_a__law_purse, h_k__law_purse, h_a__law_rank, h_k__law_rank, h_a__law_told, h_k__law_told, h_a__law_at, h_k__law_at, h_a__law_take, h_k__law_take, h_a__law_word, h_k__law_word, h_a__law_low, h_k__law_low, h_a__law_number, h_k__law_number, h_a__law_sum, h_k__law_sum, h_a_is_whole, h_k_is_whole, h_a_check_count, h_k_check_count, _⟩ := (of_decide_eq_true q0 : P0 K)
  obtain ⟨h_a_is_word, h_k_is_word, h_a_divisor, h_k_divisor, h_a_is_number, h_k_is_number, h_a_is_term, h_k_is_term, h_a_rank, h_k_rank, h_a_check_sum, h_k_check_sum, h_a_told_sum, h_k_told_sum, h_a_lowest, h_k_lowest, h_a_plus, h_k_plus, h_a_put_to, h_k_put_to, h_a_times, h_k_times, h_a_joined_short, h_k_joined_short, h_a_cut_joined, _⟩ := (of_decide_eq_true q1 : P1 K)
  obtain ⟨h_k_cut_joined, h_a__law_plus, h_k__law_plus, h_a__law_put, h_k__law_put, h_a__law_by, h_k__law_by, h_a__law_joined, h_k__law_joined, h_a_law, h_k_law, h_z_abs, h_z_bool, h_z_enumerate, h_z_int, h_z_isinstance, h_z_len, h_z_list, h_z_max, h_z_min, h_z_range, h_z_sorted, h_z_str, h_z_tuple, h_y_MOST, _⟩ := (of_decide_eq_true q2 : P2 K)
  obtain ⟨h_y_MOST_LETTERS, h_y_NOUGHT__a, h_y_NOUGHT, _⟩ := (of_decide_eq_true q3 : P3 K)
  obtain ⟨_, _, _, _, _, _, _, _, _, l__law_mixed, c__law_mixed⟩ := c.def_ 0 (d := D__law_mixed) rfl
  obtain ⟨_, _, _, _, _, _, _, _, _, l__law_purse, c__law_purse⟩ := c.def_ 1 (d := D__law_purse) rfl
  obtain ⟨_, _, _, _, _, _, _, _, _, l__law_rank, c__law_rank⟩ := c.def_ 2 (d := D__law_rank) rfl
  obtain ⟨_, _, _, _, _, _, _, _, _, l__law_told, c__law_told⟩ := c.def_ 3 (d := D__law_told) rfl
  obtain ⟨_, _, _, _, _, _, _, _, _, l__law_at, c__law_at⟩ := c.def_ 4 (d := D__law_at) rfl
  obtain ⟨_, _, _, _, _, _, _, _, _, l__law_take, c__law_take⟩ := c.def_ 5 (d := D__law_take) rfl
  obtain ⟨_, _, _, _, _, _, _, _, _, l__law_word, c__law_word⟩ := c.def_ 6 (d := D__law_word) rfl
  obtain ⟨_, _, _, _, _, _, _, _, _, l__law_low, c__law_low⟩ := c.def_ 7 (d := D__law_low) rfl
  obtain ⟨_, _, _, _, _, _, _, _, _, l__law_number, c__law_number⟩ := c.def_ 8 (d := D__law_number) rfl
  obtain ⟨_, _, _, _, _, _, _, _, _, l__law_sum, c__law_sum⟩ := c.def_ 9 (d := D__law_sum) rfl
  obtain ⟨_, _, _, _, _, _, _, _, _, l_is_whole, c_is_whole⟩ := c.def_ 10 (d := D_is_whole) rfl
  obtain ⟨_, _, _, _, _, _, _, _, _, l_check_count, c_check_count⟩ := c.def_ 11 (d := D_check_count) rfl
  obtain ⟨_, _, _, _, _, _, _, _, _, l_is_word, c_is_word⟩ := c.def_ 12 (d := D_is_word) rfl
  obtain ⟨_, _, _, _, _, _, _, _, _, l_divisor, c_divisor⟩ := c.def_ 13 (d := D_divisor) rfl
  obtain ⟨_, _, _, _, _, _, _, _, _, l_is_number, c_is_number⟩ := c.def_ 14 (d := D_is_number) rfl
  obtain ⟨_, _, _, _, _, _, _, _, _, l_is_term, c_is_term⟩ := c.def_ 15 (d := D_is_term) rfl
  obtain ⟨_, _, _, _, _, _, _, _, _, l_rank, c_rank⟩ := c.def_ 16 (d := D_rank) rfl
  obtain ⟨_, _, _, _, _, _, _, _, _, l_check_sum, c_check_sum⟩ := c.def_ 17 (d := D_check_sum) rfl
  obtain ⟨_, _, _, _, _, _, _, _, _, l_told_sum, c_told_sum⟩ := c.def_ 18 (d := D_told_sum) rfl
  obtain ⟨_, _, _, _, _, _, _, _, _, l_lowest, c_lowest⟩ := c.def_ 19 (d := D_lowest) rfl
  obtain ⟨_, _, _, _, _, _, _, _, _, l_plus, c_plus⟩ := c.def_ 20 (d := D_plus) rfl
  obtain ⟨_, _, _, _, _, _, _, _, _, l_put_to, c_put_to⟩ := c.def_ 21 (d := D_put_to) rfl
  obtain ⟨_, _, _, _, _, _, _, _, _, l_times, c_times⟩ := c.def_ 22 (d := D_times) rfl
  obtain ⟨_, _, _, _, _, _, _, _, _, l_joined_short, c_joined_short⟩ := c.def_ 23 (d := D_joined_short) rfl
  obtain ⟨_, _, _, _, _, _, _, _, _, l_cut_joined, c_cut_joined⟩ := c.def_ 24 (d := D_cut_joined) rfl
  obtain ⟨_, _, _, _, _, _, _, _, _, l__law_plus, c__law_plus⟩ := c.def_ 25 (d := D__law_plus) rfl
  obtain ⟨_, _, _, _, _, _, _, _, _, l__law_put, c__law_put⟩ := c.def_ 26 (d := D__law_put) rfl
  obtain ⟨_, _, _, _, _, _, _, _, _, l__law_by, c__law_by⟩ := c.def_ 27 (d := D__law_by) rfl
  obtain ⟨_, _, _, _, _, _, _, _, _, l__law_joined, c__law_joined⟩ := c.def_ 28 (d := D__law_joined) rfl
  obtain ⟨_, _, _, _, _, _, _, _, _, l_law, c_law⟩ := c.def_ 29 (d := D_law) rfl
  exact all_mk (l := PySem.Challenge.rw_swaprest_k57_letters_joined_and_cut) X G hfa rfl (h_seer) (h_a__law_mixed) l__law_mixed c__law_mixed (h_k__law_mixed) (h_a__law_purse) l__law_purse c__law_purse (h_k__law_purse) (h_a__law_rank) l__law_rank c__law_rank (h_k__law_rank) (h_a__law_told) l__law_told c__law_told (h_k__law_told) (h_a__law_at) l__law_at c__law_at (h_k__law_at) (h_a__law_take) l__law_take c__law_take (h_k__law_take) (h_a__law_word) l__law_word c__law_word (h_k__law_word) (h_a__law_low) l__law_low c__law_low (h_k__law_low) (h_a__law_number) l__law_number c__law_number (h_k__law_number) (h_a__law_sum) l__law_sum c__law_sum (h_k__law_sum) (h_a_is_whole) l_is_whole c_is_whole (h_k_is_whole) (h_a_check_count) l_check_count c_check_count (h_k_check_count) (h_a_is_word) l_is_word c_is_word (h_k_is_word) (h_a_divisor) l_divisor c_divisor (h_k_divisor) (h_a_is_number) l_is_number c_is_number (h_k_is_number) (h_a_is_term) l_is_term c_is_term (h_k_is_term) (h_a_rank) l_rank c_rank (h_k_rank) (h_a_check_sum) l_check_sum c_check_sum (h_k_check_sum) (h_a_told_sum) l_told_sum c_told_sum (h_k_told_sum) (h_a_lowest) l_lowest c_lowest (h_k_lowest) (h_a_plus) l_plus c_plus (h_k_plus) (h_a_put_to) l_put_to c_put_to (h_k_put_to) (h_a_times) l_times c_times (h_k_times) (h_a_joined_short) l_joined_short c_joined_short (h_k_joined_short) (h_a_cut_joined) l_cut_joined c_cut_joined (h_k_cut_joined) (h_a__law_plus) l__law_plus c__law_plus (h_k__law_plus) (h_a__law_put) l__law_put c__law_put (h_k__law_put) (h_a__law_by) l__law_by c__law_by (h_k__law_by) (h_a__law_joined) l__law_joined c__law_joined (h_k__law_joined) (h_a_law) l_law c_law (h_k_law) (h_z_abs) (h_z_bool) (h_z_enumerate) (h_z_int) (h_z_isinstance) (h_z_len) (h_z_list) (h_z_max) (h_z_min) (h_z_range) (h_z_sorted) (h_z_str) (h_z_tuple) (konst_intB X G h_y_MOST) (konst_intB X G h_y_MOST_LETTERS) (konst_tupB X G h_y_NOUGHT__a h_y_NOUGHT rfl (by show 2 ≤ sizeLine; decide))
end Lw
open PySem PySem.W PySem.Calls PyProof.Rows
set_option maxHeartbeats 0 in
theorem PySem.Challenge.cw_swaprest_k57_letters_joined_and_cut_holds : PySem.Challenge.rw_swaprest_k57_letters_joined_and_cut.Holds := by
  w_on; o_law
  refine HandSHeadRun.head_any (r := (OpenLaw.row PySem.Challenge.rw_swaprest_k57_letters_joined_and_cut)) (q := view (OpenLaw.row PySem.Challenge.rw_swaprest_k57_letters_joined_and_cut).prog [41]) (H := Lw.hk) (ob := Lw.ob) (M := 20000) (loose := Lw.nms) (d := HandSHeadRun.topDef (OpenLaw.row PySem.Challenge.rw_swaprest_k57_letters_joined_and_cut).prog 41) (kwd := []) Lw.ob_eq
    (by kernel_rfl) (fun s => by kernel_rfl) Lw.run (by kernel_rfl) (by kernel_rfl) (by kernel_rfl) (by rfl) (by first | assumption | decide +kernel) (by decide +kernel) ⟨rfl, rfl, rfl, rfl, rfl, by decide +kernel⟩ ?hw ?hc
  case hw => w_witness2
  case hc =>
    refine SW.walk_G (l := PySem.Challenge.rw_swaprest_k57_letters_joined_and_cut) (k := 40) (x := "_law_script") rfl (by kernel_rfl) ⟨rfl, by decide, by decide⟩ Lw.law_true ?_
    intro w mg fa h Y G hmg0
    obtain ⟨K, KX, c⟩ := Y
    have hmg : mg ("law" : PySem.Str) = some (.ref fa) := by
      have e : (HandSHeadRun.topDef (OpenLaw.row PySem.Challenge.rw_swaprest_k57_letters_joined_and_cut).prog 41).name = ("law" : PySem.Str) := by kernel_rfl
      rw [← e]
      exact hmg0
    obtain ⟨fd, hb, hF⟩ := Lw.facts (w := w) KX G hmg c
    exact ⟨K, KX, fd, hb, fun base hK hN => hF base hK hN⟩

