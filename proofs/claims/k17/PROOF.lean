import PyProof.Rows.All
import Wide.All
import OpenK.AllK
import Wide.FinOn
import HandS.ForMost
import HandS.Exc
import HandS.ExcOwn
import HandS.WordsExc
import HandS.CallSlots
import HandS.Defaults
import HandS.Property
import HandS.IsInst
import HandS.Star
import HandS.Wide
import HandS.WideBits
import HandS.ExcIs
import HandS.TupAny
import HandS.Head0
import HandS.Head1
import HandS.Head2
import HandS.HeadEnd
import HandS.HeadHook1
import HandS.HeadHook2
import HandS.HeadNt
import HandS.Comp
import HandS.Text
import HandS.Iter
import HandS.TryOnly
import HandS.RaiseMore
import KE.DataFind
import HandS.Deep
import KE.KOpsOwn
import PyProof.StrOps2
import HandS.Style
import HandS.Codes
import HandS.SortInts
import HandS.SetFor
import HandS.Conv
import HandS.Strs
import PySem.Challenge.RW_alignmaps_k17_padding_of_short_layouts
set_option Elab.async false
set_option linter.all false
set_option maxRecDepth 100000
set_option maxHeartbeats 4000000
namespace B
open PySem L2 PyProof.Rows
structure Nm where
  cl : Nat → Addr
  fl : Nat → Str
  inj : ∀ i j, fl i = fl j → i = j

inductive Kd where
  | non | bl | int | str | lst | tup | own (c : Nat) | exc (c : Nat) | dct | oth
  deriving DecidableEq
def Kd.ty (N : Nm) : Kd → Value
  | .non => .type "NoneType"
  | .bl => .type "bool"
  | .int => .type "int"
  | .str => .type "str"
  | .lst => .type "list"
  | .tup => .type "tuple"
  | .own c => .ref (N.cl c)
  | .exc c => .ref (N.cl c)
  | .dct => .type "dict"
  | .oth => .none
def flT (tab : List Str) (i : Nat) : Str := match tab[i]? with
  | some s => s
  | none => ⟨Array.replicate (1000 + i) 0⟩
def tabOk (tab : List Str) : Bool := decide tab.Nodup && tab.all fun s => decide (s.cps.size < 1000)
theorem flT_inj {tab : List Str} (h : tabOk tab = true) (i j : Nat) (e : flT tab i = flT tab j) : i = j := by
  unfold tabOk at h
  rw [Bool.and_eq_true] at h
  have h1 : tab.Nodup := of_decide_eq_true h.1
  have h2 := List.all_eq_true.mp h.2
  unfold flT at e
  cases e1 : tab[i]? with
  | some s =>
    cases e2 : tab[j]? with
    | some t =>
      rw [e1, e2] at e
      simp only at e
      subst e
      exact nodup_ix h1 e1 e2
    | none =>
      rw [e1, e2] at e
      simp only at e
      have := of_decide_eq_true (h2 s (List.mem_of_getElem? e1))
      rw [e] at this
      simp at this
      omega
  | none =>
    cases e2 : tab[j]? with
    | some t =>
      rw [e1, e2] at e
      simp only at e
      have := of_decide_eq_true (h2 t (List.mem_of_getElem? e2))
      rw [← e] at this
      simp at this
      omega
    | none =>
      rw [e1, e2] at e
      simp only at e
      have := congrArg (fun s : Str => s.cps.size) e
      simp at this
      omega
abbrev DefA := He5.DefA
def obsY (ex : List (PySem.W.Frag → Bool)) (fn : List DefA) (K : PySem.W.Frag) : He.AlD := ((ex.all fun f => f K) && fn.all fun d => d.ok K, fn.map fun d => He5.fnA K (d.at_ K))
def valY (fn : List DefA) : He.AlD := (true, fn.map He5.DefA.val)
def SaysY (ex : List (PySem.W.Frag → Bool)) (fn : List DefA) (K : PySem.W.Frag) : Prop := obsY ex fn K = valY fn
def obsYG (n : Nat) (ex : List (PySem.W.Frag → Bool)) (fn : List DefA) (g : Addr → Option Obj) : He.AlD := obsY ex fn (He.frG g (He.asD g n))
def hookY (n : Nat) (ex : List (PySem.W.Frag → Bool)) (fn : List DefA) : PySem.W.Hook where
  α := He.AlD
  obs := fun s => obsYG n ex fn s.heap.get?
  val := fun _ => valY fn
  says := fun _ h => ∃ K : PySem.W.Frag, K.In h ∧ SaysY ex fn K
  of := fun _ _ e => ⟨_, He.frG_in, e⟩
  keeps := fun _ _ _ ⟨K, hK, c⟩ k => ⟨K, PySem.W.Frag.In.keeps hK k, c⟩
theorem obsYG_eq {n : Nat} {ex : List (PySem.W.Frag → Bool)} {fn : List DefA} {g : Addr → Option Obj} {s : Shared} (h : ∀ a, g a = s.heap.get? a) : obsYG n ex fn g = (hookY n ex fn).obs s := by
  have e : g = s.heap.get? := funext h
  rw [e] <;> rfl
def fFa (f : He.Fa) (K : PySem.W.Frag) : Bool := f.ok K
def fInst (x : Str) (K : PySem.W.Frag) : Bool := fFa (.cls x) K && (He.eqO (PySem.W.findIn K (.ref (He.ga K x)) "__class__") (some (some (.builtin "object.__class__"))) && (He.eqO (PySem.W.specialIn K (.builtin "object.__class__") "__get__") (some (some (.builtin "getset_descriptor.__get__"))) &&
  (decide (PySem.W.takesIn K (.builtin "object.__class__") = some true) && decide (PySem.W.mroIn K (He.ga K x) (.type "object") = some true))))
def fExcC (x : Str) (K : PySem.W.Frag) : Bool := He.eqO (PySem.W.findIn K (.ref (He.ga K x)) "__getattribute__") (some (some (.builtin "BaseException.__getattribute__"))) && (He.eqO (PySem.W.findIn K (.ref (He.ga K x)) "__getattr__") (some none) &&
  (decide (PySem.W.subIn K (.ref (He.ga K x)) (.type "BaseException") = some true) && (PySem.W.hasDictIn K (He.ga K x) && (He.eqO (PySem.W.findIn K (.ref (He.ga K x)) "__class__") (some (some (.builtin "object.__class__"))) &&
  (He.eqO (PySem.W.specialIn K (.builtin "object.__class__") "__get__") (some (some (.builtin "getset_descriptor.__get__"))) && (decide (PySem.W.takesIn K (.builtin "object.__class__") = some true) && decide (PySem.W.mroIn K (He.ga K x) (.type "object") = some true)))))))
def fIsi (N : PySem.W.Frag → Nm) (u : PySem.W.Frag → Value) (ks yes : List Kd) (K : PySem.W.Frag) : Bool := ks.all fun k => decide (PySem.W.kitOne K (k.ty (N K)) (u K) = some (yes.contains k))
def fCmp (N : PySem.W.Frag → Nm) (C : PySem.W.Frag → Addr) (ks : List Kd) (K : PySem.W.Frag) : Bool := ks.all fun k => PySem.W.notFirst K (C K) (k.ty (N K))
def fOwn (x m : Str) (K : PySem.W.Frag) : Bool := PySem.W.selfFirst K (He.ga K x) && (He.eqO (PySem.W.findIn K (.ref (He.ga K x)) m) (some (some (.ref (He.ma K (He.ga K x) m)))) && PySem.W.isFn K (.ref (He.ma K (He.ga K x) m)))
def fOwnT (x : Str) (nm T : String) (K : PySem.W.Frag) : Bool := (match PySem.W.findIn K (.ref (He.ga K x)) (PySem.dunderR nm) with
  | some none => true
  | some (some (.ref _)) => true
  | _ => false) && ((PySem.W.findIn K (.type T) (PySem.dunder nm)).isSome && ((PySem.W.findIn K (.type T) (PySem.dunderR nm)).isSome && decide (PySem.W.subIn K (.type T) (.ref (He.ga K x)) = some false)))
def fCall (x : Str) (K : PySem.W.Frag) : Bool := He.eqO (PySem.W.findIn K (.ref (He.ga K x)) "__call__") (some (some (.ref (He.ma K (He.ga K x) "__call__")))) && (PySem.W.isFn K (.ref (He.ma K (He.ga K x) "__call__")) && PySem.W.fnIn K (He.ma K (He.ga K x) "__call__"))
def propG (x m : Str) (K : PySem.W.Frag) : Addr := match PySem.W.recIn K (He.ma K (He.ga K x) m) "property" with
  | some (.ref g :: _) => g
  | _ => 0
def fProp (x m : Str) (K : PySem.W.Frag) : Bool := He.eqO (PySem.W.findIn K (.ref (He.ga K x)) m) (some (some (.ref (He.ma K (He.ga K x) m)))) && (He.eqO (PySem.W.specialIn K (.ref (He.ma K (He.ga K x) m)) "__get__") (some (some (.builtin "property.__get__"))) && (decide (PySem.W.takesIn K (.ref (He.ma K (He.ga K x) m)) = some true) &&
  (match PySem.W.recIn K (He.ma K (He.ga K x) m) "property" with
  | some (.ref _ :: _) => true
  | _ => false)))
def fTup (x : Str) (ns : List Int) (K : PySem.W.Frag) : Bool := fFa (.glo x) K && He.tupB K x (ns.map .int)
end B
set_option Elab.async false
set_option linter.all false
set_option maxRecDepth 100000
set_option maxHeartbeats 4000000
namespace L
open PySem L2 B
def top (i : Nat) : Stmt := PySem.Challenge.pw_alignmaps_k17_padding_of_short_layouts.main.body.getD i (.Pass ⟨0, 0, 0, 0⟩)
abbrev s_l_silo : Stmt := top 57
abbrev s_words_of : Stmt := top 29
abbrev s_is_decimal : Stmt := top 26
abbrev s_is_int : Stmt := top 22
abbrev s_in_range : Stmt := top 23
abbrev s_is_power : Stmt := top 24
abbrev s_is_align_word : Stmt := top 27
abbrev s_is_letters : Stmt := top 25
abbrev s_is_single : Stmt := top 28
abbrev s_first_wrong : Stmt := top 30
abbrev s_nodes_from : Stmt := top 31
abbrev s_nodes_in : Stmt := top 32
abbrev s_Layout_init : Stmt := inClass (top 35) 0
abbrev s_l_words : Stmt := top 62
abbrev s_Layout_alignment : Stmt := inClass (top 35) 4
abbrev s_l_ceil : Stmt := top 64
abbrev s_l_walk : Stmt := top 65
abbrev s_l_rows : Stmt := top 66
abbrev s_l_gaps : Stmt := top 68
abbrev s_require_layout : Stmt := top 36
abbrev s_Layout_is_plain : Stmt := inClass (top 35) 3
abbrev s_require_plain : Stmt := top 37
abbrev s_require_start : Stmt := top 38
abbrev s_nodes_of : Stmt := top 40
abbrev s_ceil_to : Stmt := top 44
abbrev s_end_by : Stmt := top 48
abbrev s_power_of : Stmt := top 47
abbrev s_reduced : Stmt := top 45
abbrev s_joined : Stmt := top 46
abbrev s_triple_of : Stmt := top 51
abbrev s_node_triple : Stmt := top 50
abbrev s_end_from : Stmt := top 52
abbrev s_bytes_of : Stmt := top 41
abbrev s_padding : Stmt := top 53
abbrev s_l_grab : Stmt := top 58
abbrev s_padding_range : Stmt := top 54
abbrev s_require_number : Stmt := top 39
abbrev s_starts_with_padding : Stmt := top 55
abbrev s_l_in_arc : Stmt := top 69
abbrev s_l_right : Stmt := top 70
abbrev s_l_power : Stmt := top 59
abbrev s_l_count : Stmt := top 60
abbrev s_l_nodes : Stmt := top 61
abbrev s_l_names : Stmt := top 63
abbrev s_l_wide : Stmt := top 67
abbrev s_law : Stmt := top 71
def clsL : List Str := ["LayoutError", "InvalidText", "TooLarge", "TooDeep", "SameLabel", "InvalidLayout", "NotPlain", "InvalidTimes", "InvalidStart", "InvalidNumber", "Layout"]
def fldL : List Str := ["index", "limit", "label", "own_text", "own_words", "own_nodes", "own_labels", "own_alignment"]
def nm (K : PySem.W.Frag) : Nm := ⟨fun i => He.ga K (clsL.getD i ""), flT fldL, fun i j e => flT_inj (by decide +kernel) i j e⟩
def dA_l_silo : DefA := ⟨fun K => He.ga K "_law_silo", "_law_silo", "_law_silo", defArgs s_l_silo, defBody s_l_silo, defScope s_l_silo, [], []⟩
def dA_words_of : DefA := ⟨fun K => He.ga K "words_of", "words_of", "words_of", defArgs s_words_of, defBody s_words_of, defScope s_words_of, [], []⟩
def dA_is_decimal : DefA := ⟨fun K => He.ga K "is_decimal", "is_decimal", "is_decimal", defArgs s_is_decimal, defBody s_is_decimal, defScope s_is_decimal, [], []⟩
def dA_is_int : DefA := ⟨fun K => He.ga K "is_int", "is_int", "is_int", defArgs s_is_int, defBody s_is_int, defScope s_is_int, [], []⟩
def dA_in_range : DefA := ⟨fun K => He.ga K "in_range", "in_range", "in_range", defArgs s_in_range, defBody s_in_range, defScope s_in_range, [], []⟩
def dA_is_power : DefA := ⟨fun K => He.ga K "is_power", "is_power", "is_power", defArgs s_is_power, defBody s_is_power, defScope s_is_power, [], []⟩
def dA_is_align_word : DefA := ⟨fun K => He.ga K "is_align_word", "is_align_word", "is_align_word", defArgs s_is_align_word, defBody s_is_align_word, defScope s_is_align_word, [], []⟩
def dA_is_letters : DefA := ⟨fun K => He.ga K "is_letters", "is_letters", "is_letters", defArgs s_is_letters, defBody s_is_letters, defScope s_is_letters, [], []⟩
def dA_is_single : DefA := ⟨fun K => He.ga K "is_single", "is_single", "is_single", defArgs s_is_single, defBody s_is_single, defScope s_is_single, [], []⟩
def dA_first_wrong : DefA := ⟨fun K => He.ga K "first_wrong", "first_wrong", "first_wrong", defArgs s_first_wrong, defBody s_first_wrong, defScope s_first_wrong, [], []⟩
def dA_nodes_from : DefA := ⟨fun K => He.ga K "nodes_from", "nodes_from", "nodes_from", defArgs s_nodes_from, defBody s_nodes_from, defScope s_nodes_from, [], []⟩
def dA_nodes_in : DefA := ⟨fun K => He.ga K "nodes_in", "nodes_in", "nodes_in", defArgs s_nodes_in, defBody s_nodes_in, defScope s_nodes_in, [], []⟩
def dA_Layout_init : DefA := ⟨fun K => He.ma K (He.ga K "Layout") "__init__", "__init__", "Layout.__init__", defArgs s_Layout_init, defBody s_Layout_init, defScope s_Layout_init, [], []⟩
def dA_l_words : DefA := ⟨fun K => He.ga K "_law_words", "_law_words", "_law_words", defArgs s_l_words, defBody s_l_words, defScope s_l_words, [], []⟩
def dA_Layout_alignment : DefA := ⟨fun K => propG "Layout" "alignment" K, "alignment", "Layout.alignment", defArgs s_Layout_alignment, defBody s_Layout_alignment, defScope s_Layout_alignment, [], []⟩
def dA_l_ceil : DefA := ⟨fun K => He.ga K "_law_ceil", "_law_ceil", "_law_ceil", defArgs s_l_ceil, defBody s_l_ceil, defScope s_l_ceil, [], []⟩
def dA_l_walk : DefA := ⟨fun K => He.ga K "_law_walk", "_law_walk", "_law_walk", defArgs s_l_walk, defBody s_l_walk, defScope s_l_walk, [], []⟩
def dA_l_rows : DefA := ⟨fun K => He.ga K "_law_rows", "_law_rows", "_law_rows", defArgs s_l_rows, defBody s_l_rows, defScope s_l_rows, [], []⟩
def dA_l_gaps : DefA := ⟨fun K => He.ga K "_law_gaps", "_law_gaps", "_law_gaps", defArgs s_l_gaps, defBody s_l_gaps, defScope s_l_gaps, [], []⟩
def dA_require_layout : DefA := ⟨fun K => He.ga K "require_layout", "require_layout", "require_layout", defArgs s_require_layout, defBody s_require_layout, defScope s_require_layout, [], []⟩
def dA_Layout_is_plain : DefA := ⟨fun K => propG "Layout" "is_plain" K, "is_plain", "Layout.is_plain", defArgs s_Layout_is_plain, defBody s_Layout_is_plain, defScope s_Layout_is_plain, [], []⟩
def dA_require_plain : DefA := ⟨fun K => He.ga K "require_plain", "require_plain", "require_plain", defArgs s_require_plain, defBody s_require_plain, defScope s_require_plain, [], []⟩
def dA_require_start : DefA := ⟨fun K => He.ga K "require_start", "require_start", "require_start", defArgs s_require_start, defBody s_require_start, defScope s_require_start, [], []⟩
def dA_nodes_of : DefA := ⟨fun K => He.ga K "nodes_of", "nodes_of", "nodes_of", defArgs s_nodes_of, defBody s_nodes_of, defScope s_nodes_of, [], []⟩
def dA_ceil_to : DefA := ⟨fun K => He.ga K "ceil_to", "ceil_to", "ceil_to", defArgs s_ceil_to, defBody s_ceil_to, defScope s_ceil_to, [], []⟩
def dA_end_by : DefA := ⟨fun K => He.ga K "end_by", "end_by", "end_by", defArgs s_end_by, defBody s_end_by, defScope s_end_by, [], []⟩
def dA_power_of : DefA := ⟨fun K => He.ga K "power_of", "power_of", "power_of", defArgs s_power_of, defBody s_power_of, defScope s_power_of, [], []⟩
def dA_reduced : DefA := ⟨fun K => He.ga K "reduced", "reduced", "reduced", defArgs s_reduced, defBody s_reduced, defScope s_reduced, [], []⟩
def dA_joined : DefA := ⟨fun K => He.ga K "joined", "joined", "joined", defArgs s_joined, defBody s_joined, defScope s_joined, [], []⟩
def dA_triple_of : DefA := ⟨fun K => He.ga K "triple_of", "triple_of", "triple_of", defArgs s_triple_of, defBody s_triple_of, defScope s_triple_of, [], []⟩
def dA_node_triple : DefA := ⟨fun K => He.ga K "node_triple", "node_triple", "node_triple", defArgs s_node_triple, defBody s_node_triple, defScope s_node_triple, [], []⟩
def dA_end_from : DefA := ⟨fun K => He.ga K "end_from", "end_from", "end_from", defArgs s_end_from, defBody s_end_from, defScope s_end_from, [], []⟩
def dA_bytes_of : DefA := ⟨fun K => He.ga K "bytes_of", "bytes_of", "bytes_of", defArgs s_bytes_of, defBody s_bytes_of, defScope s_bytes_of, [], []⟩
def dA_padding : DefA := ⟨fun K => He.ga K "padding", "padding", "padding", defArgs s_padding, defBody s_padding, defScope s_padding, [], []⟩
def dA_l_grab : DefA := ⟨fun K => He.ga K "_law_grab", "_law_grab", "_law_grab", defArgs s_l_grab, defBody s_l_grab, defScope s_l_grab, [], []⟩
def dA_padding_range : DefA := ⟨fun K => He.ga K "padding_range", "padding_range", "padding_range", defArgs s_padding_range, defBody s_padding_range, defScope s_padding_range, [], []⟩
def dA_require_number : DefA := ⟨fun K => He.ga K "require_number", "require_number", "require_number", defArgs s_require_number, defBody s_require_number, defScope s_require_number, [], []⟩
def dA_starts_with_padding : DefA := ⟨fun K => He.ga K "starts_with_padding", "starts_with_padding", "starts_with_padding", defArgs s_starts_with_padding, defBody s_starts_with_padding, defScope s_starts_with_padding, [], []⟩
def dA_l_in_arc : DefA := ⟨fun K => He.ga K "_law_in_arc", "_law_in_arc", "_law_in_arc", defArgs s_l_in_arc, defBody s_l_in_arc, defScope s_l_in_arc, [], []⟩
def dA_l_right : DefA := ⟨fun K => He.ga K "_law_right", "_law_right", "_law_right", defArgs s_l_right, defBody s_l_right, defScope s_l_right, [], []⟩
def dA_l_power : DefA := ⟨fun K => He.ga K "_law_power", "_law_power", "_law_power", defArgs s_l_power, defBody s_l_power, defScope s_l_power, [], []⟩
def dA_l_count : DefA := ⟨fun K => He.ga K "_law_count", "_law_count", "_law_count", defArgs s_l_count, defBody s_l_count, defScope s_l_count, [], []⟩
def dA_l_nodes : DefA := ⟨fun K => He.ga K "_law_nodes", "_law_nodes", "_law_nodes", defArgs s_l_nodes, defBody s_l_nodes, defScope s_l_nodes, [], []⟩
def dA_l_names : DefA := ⟨fun K => He.ga K "_law_names", "_law_names", "_law_names", defArgs s_l_names, defBody s_l_names, defScope s_l_names, [], []⟩
def dA_l_wide : DefA := ⟨fun K => He.ga K "_law_wide", "_law_wide", "_law_wide", defArgs s_l_wide, defBody s_l_wide, defScope s_l_wide, [], []⟩
def dA_law : DefA := ⟨fun K => He.ga K "law", "law", "law", defArgs s_law, defBody s_law, defScope s_law, [], []⟩
def exL : List (PySem.W.Frag → Bool) := [fFa (.free "len"),
  fFa (.free "max"),
  fFa (.int "MOST_DIGITS" 31),
  fFa (.free "all"),
  fFa (.str "DIGITS" "0123456789"),
  fFa (.free "int"),
  fFa (.free "isinstance"),
  fFa (.free "bool"),
  fFa (.int "MOST_ALIGNMENT" 1152921504606846976),
  fFa (.free "str"),
  fFa (.str "SMALL" "abcdefghijklmnopqrstuvwxyz"),
  fFa (.int "MOST_SIZE" 1000000000000000000000000000000),
  fFa (.int "MOST_WORDS" 400),
  fFa (.int "MOST_OPEN" 12),
  fFa (.int "MOST_OVERLAYS" 6),
  fFa (.int "MOST_TIMES" 1000000000000000000000000000000),
  fFa (.free "enumerate"),
  fFa (.free "tuple"),
  fFa (.free "range"),
  fFa (.free "sum"),
  fTup "SAME" [1, 0, 0],
  fFa (.free "repr"),
  fFa (.free "min"),
  fFa (.free "sorted"),
  fFa (.free "list"),
  fFa (.free "set"),
  fInst "Layout",
  fIsi nm (fun _ => .type "int") [.non, .bl, .int, .str, .lst, .tup, .own 10] [.int, .bl],
  fIsi nm (fun _ => .type "bool") [.non, .bl, .int, .str, .lst, .tup, .own 10] [.bl],
  fIsi nm (fun _ => .type "str") [.non, .bl, .int, .str, .lst, .tup, .own 10] [.str],
  fFa (.noat "Layout" "own_text"),
  fFa (.noat "Layout" "own_words"),
  fFa (.noat "Layout" "own_nodes"),
  fFa (.noat "Layout" "own_labels"),
  fFa (.noat "Layout" "own_alignment"),
  fIsi nm (fun K => .ref ((nm K).cl 10)) [.non, .bl, .int, .str, .lst, .tup, .own 10] [.own 10],
  fFa (.glo "Layout"),
  fIsi nm (fun _ => .type "tuple") [.non, .bl, .int, .str, .lst, .tup, .own 10] [.tup],
  fFa (.glo "_law_silo"),
  fFa (.glo "words_of"),
  fFa (.glo "is_decimal"),
  fFa (.glo "is_int"),
  fFa (.glo "in_range"),
  fFa (.glo "is_power"),
  fFa (.glo "is_align_word"),
  fFa (.glo "is_letters"),
  fFa (.glo "is_single"),
  fFa (.glo "first_wrong"),
  fFa (.glo "nodes_from"),
  fFa (.glo "nodes_in"),
  fFa (.mkr "Layout"),
  fFa (.glo "_law_words"),
  fProp "Layout" "alignment",
  fFa (.glo "_law_ceil"),
  fFa (.glo "_law_walk"),
  fFa (.glo "_law_rows"),
  fFa (.glo "_law_gaps"),
  fFa (.glo "require_layout"),
  fProp "Layout" "is_plain",
  fFa (.glo "require_plain"),
  fFa (.glo "require_start"),
  fFa (.glo "nodes_of"),
  fFa (.glo "ceil_to"),
  fFa (.glo "end_by"),
  fFa (.glo "power_of"),
  fFa (.glo "reduced"),
  fFa (.glo "joined"),
  fFa (.glo "triple_of"),
  fFa (.glo "node_triple"),
  fFa (.glo "end_from"),
  fFa (.glo "bytes_of"),
  fFa (.glo "padding"),
  fFa (.glo "_law_grab"),
  fFa (.glo "padding_range"),
  fFa (.glo "require_number"),
  fFa (.glo "starts_with_padding"),
  fFa (.glo "_law_in_arc"),
  fFa (.glo "_law_right"),
  fFa (.glo "_law_power"),
  fFa (.glo "_law_count"),
  fFa (.glo "_law_nodes"),
  fFa (.glo "_law_names"),
  fFa (.glo "_law_wide"),
  fFa (.glo "law")]
def fnL : List DefA := [dA_l_silo,
  dA_words_of,
  dA_is_decimal,
  dA_is_int,
  dA_in_range,
  dA_is_power,
  dA_is_align_word,
  dA_is_letters,
  dA_is_single,
  dA_first_wrong,
  dA_nodes_from,
  dA_nodes_in,
  dA_Layout_init,
  dA_l_words,
  dA_Layout_alignment,
  dA_l_ceil,
  dA_l_walk,
  dA_l_rows,
  dA_l_gaps,
  dA_require_layout,
  dA_Layout_is_plain,
  dA_require_plain,
  dA_require_start,
  dA_nodes_of,
  dA_ceil_to,
  dA_end_by,
  dA_power_of,
  dA_reduced,
  dA_joined,
  dA_triple_of,
  dA_node_triple,
  dA_end_from,
  dA_bytes_of,
  dA_padding,
  dA_l_grab,
  dA_padding_range,
  dA_require_number,
  dA_starts_with_padding,
  dA_l_in_arc,
  dA_l_right,
  dA_l_power,
  dA_l_count,
  dA_l_nodes,
  dA_l_names,
  dA_l_wide,
  dA_law]
abbrev Rw : PySem.W.OpenRow := PySem.W.OpenLaw.row PySem.Challenge.rw_alignmaps_k17_padding_of_short_layouts
abbrev hk : PySem.W.Hook := hookY 9 exL fnL
def ob (s : PySem.W.SharedT) : He.AlD := obsYG 9 exL fnL (HandSHeadRun.getT s)
theorem ob_eq (s : PySem.W.SharedT) : ob s = hk.obs s.abs := obsYG_eq (HandSHeadRun.getT_eq s)
def names : List PySem.Str := (["_wall", "is_int", "in_range", "is_power", "is_letters", "is_decimal", "is_align_word", "is_single", "words_of", "first_wrong", "nodes_from", "nodes_in", "open_in", "joined_text", "require_layout", "require_plain", "require_start", "require_number", "nodes_of", "bytes_of"] : List PySem.Str) ++ (["ceil_to", "reduced", "joined", "power_of", "end_by", "node_triple", "triple_of", "end_from", "padding", "padding_range", "starts_with_padding", "_law_silo", "_law_grab", "_law_power", "_law_count", "_law_nodes", "_law_words", "_law_names", "_law_ceil", "_law_walk"] : List PySem.Str) ++ (["_law_rows", "_law_wide", "_law_gaps", "_law_in_arc", "_law_right", "LayoutError", "InvalidText", "TooLarge", "TooDeep", "SameLabel", "InvalidLayout", "NotPlain", "InvalidTimes", "InvalidStart", "InvalidNumber", "Layout", "DIGITS", "SMALL", "MOST_SIZE", "MOST_ALIGNMENT"] : List PySem.Str) ++ (["MOST_TIMES", "MOST_DIGITS", "MOST_WORDS", "MOST_OPEN", "MOST_OVERLAYS", "SAME"] : List PySem.Str)
theorem obs_two {n : Nat} {ex : List (PySem.W.Frag → Bool)} {fn : List DefA} {g : Addr → Option Obj} (i j : Nat) (h1 : obsYG n (ex.take i) (fn.take j) g = valY (fn.take j)) (h2 : obsYG n (ex.drop i) (fn.drop j) g = valY (fn.drop j)) : obsYG n ex fn g = valY fn := by
  have ea : ∀ f : (PySem.W.Frag → Bool) → Bool, ex.all f = ((ex.take i).all f && (ex.drop i).all f) := fun f => by rw [← List.all_append, List.take_append_drop]
  have eb : ∀ f : DefA → Bool, fn.all f = ((fn.take j).all f && (fn.drop j).all f) := fun f => by rw [← List.all_append, List.take_append_drop]
  have ec : ∀ {γ : Type} (f : DefA → γ), fn.map f = (fn.take j).map f ++ (fn.drop j).map f := fun f => by rw [← List.map_append, List.take_append_drop]
  unfold obsYG obsY valY at *
  have a1 := (Prod.mk.inj h1).1; have a2 := (Prod.mk.inj h1).2; have b1 := (Prod.mk.inj h2).1; have b2 := (Prod.mk.inj h2).2
  rw [Bool.and_eq_true] at a1 b1
  refine Prod.ext ?_ ?_
  · show (_ && _) = true
    rw [ea, eb, a1.1, a1.2, b1.1, b1.2]; rfl
  · show _ = _
    rw [ec, ec, a2, b2]
noncomputable abbrev endX (w : World) (os : PySem.OsState) : Option PySem.W.SharedT := HandSHeadRun.endF (HandSHeadRun.stepQ (HandSHeadRun.denQ HandSHeadRun.tabQ) Rw.prog w) 7000 Rw.prog w os
open PySem PySem.W PySem.Calls PyProof.Rows in
theorem run_a (w : World) : ∀ os : OsState, (endX w os).map (fun s => (HandSHeadRun.looksF Rw.prog (boot_heap w.params) s.abs, HandSHeadRun.seenQ (PySem.W.view Rw.prog [71]) names (importedModules Rw.prog.main.body) (fun s => xlAt (PySem.W.view Rw.prog [71]) [] s && recOk Rw.toRowW.records s) s.abs)) = some (true, openGood (PySem.W.view Rw.prog [71]) names) := by
  intro os
  kernel_rfl
theorem run_c (w : World) : ∀ os : PySem.OsState, (endX w os).map (fun s => (Nat.ble 1 s.n, obsYG 9 (exL.take 42) (fnL.take 23) (HandSHeadRun.getT s))) = some (true, valY (fnL.take 23)) := by
  intro os
  kernel_rfl
theorem run_d (w : World) : ∀ os : PySem.OsState, (endX w os).map (fun s => (Nat.ble 1 s.n, obsYG 9 (exL.drop 42) (fnL.drop 23) (HandSHeadRun.getT s))) = some (true, valY (fnL.drop 23)) := by
  intro os
  kernel_rfl
theorem run (w : World) : HandSHeadRun.RunEq Rw (PySem.W.view Rw.prog [71]) hk ob 7000 names w := by
  intro os
  have a := run_a w os; have c := run_c w os; have d := run_d w os
  show (endX w os).map _ = _
  cases h : endX w os with
  | none => rw [h] at c; cases c
  | some s =>
    rw [h] at a c d
    have a1 := Option.some.inj a; have c1 := congrArg Prod.snd (Option.some.inj c); have d1 := congrArg Prod.snd (Option.some.inj d)
    have e : ob s = hk.val w := obs_two 42 23 c1 d1
    rw [Option.map_some]
    refine congrArg some (Prod.ext ?_ (Prod.ext ?_ e))
    · have z := congrArg Prod.fst a1; exact z
    · have z := congrArg Prod.snd a1; exact z
end L

set_option Elab.async false
set_option linter.all false
set_option maxRecDepth 100000
set_option maxHeartbeats 4000000
/-! B0: values by content, the states, what a step keeps -/
namespace B
open PySem L2

/-- a value by its content; scr: the script (read, never joined) -/
inductive PV where
  | at (v : V) | tup (xs : List PV) | lst (xs : List PV) | scr (xs : List Int) | ins (c : Nat) (fs : List (Nat × PV)) | exc (c : Nat) (f : Option (Nat × V)) | dct (ks : List Key) (ps : List PV)
instance : Inhabited PV := ⟨.at .non⟩
abbrev PV.int (i : Int) : PV := .at (.int i)
abbrev PV.bl (b : Bool) : PV := .at (.bl b)
abbrev PV.str (s : Str) : PV := .at (.str s)
abbrev PV.non : PV := .at .non
/-- an exception that was caught -/
def ExA (cls : Value) (d : Option Addr) (a : Addr) : HO := .ext fun h => ∃ (oe : Obj) (vs : Array Value), h.get? a = some oe ∧ Zc cls d oe ∧ oe.data = .fields vs
mutual
inductive Rep (K : PySem.W.Frag) (N : Nm) (R : Hp) : PV → V → Prop
  | at (v : V) : Rep K N R (.at v) v
  | tup {ps vs a} : SqT K R a vs → Reps K N R ps vs → Rep K N R (.tup ps) (.ref a)
  | lst {ps vs a} : R a = some (.lst vs) → Reps K N R ps vs → Rep K N R (.lst ps) (.ref a)
  | scr {ns a} : SqL K R a (ns.map V.int) → Rep K N R (.scr ns) (.ref a)
  | ins {c fs a dx gs} : R a = some (.ins (N.cl c) dx gs) → RepF K N R fs gs → Rep K N R (.ins c fs) (.ref a)
  | exc {c a} : R a = some (ExA (.ref (N.cl c)) none a) → Rep K N R (.exc c none) (.ref a)
  | excF {c n v a d} : R a = some (ExA (.ref (N.cl c)) (some d) a) → R d = some (.xd [(N.fl n, v)]) → Rep K N R (.exc c (some (n, v))) (.ref a)
  | dct {ks ps vs a} : R a = some (.dK (ks.zip vs)) → ks.length = vs.length → Reps K N R ps vs → Rep K N R (.dct ks ps) (.ref a)
inductive Reps (K : PySem.W.Frag) (N : Nm) (R : Hp) : List PV → List V → Prop
  | nil : Reps K N R [] []
  | cons {p v ps vs} : Rep K N R p v → Reps K N R ps vs → Reps K N R (p :: ps) (v :: vs)
inductive RepF (K : PySem.W.Frag) (N : Nm) (R : Hp) : List (Nat × PV) → List (Str × V) → Prop
  | nil : RepF K N R [] []
  | cons {n p v ps vs} : Rep K N R p v → RepF K N R ps vs → RepF K N R ((n, p) :: ps) ((N.fl n, v) :: vs)
end

def Sub (R H : Hp) : Prop := ∀ a o, R a = some o → H a = some o
theorem Sub.refl (H : Hp) : Sub H H := fun _ _ h => h
theorem Sub.trans {H H1 H2 : Hp} (a : Sub H H1) (b : Sub H1 H2) : Sub H H2 := fun x o h => b x o (a x o h)
theorem Sub.seq {K : PySem.W.Frag} {H H' : Hp} {a : Addr} {xs : List V} (e : Sub H H') (h : SqL K H a xs) : SqL K H' a xs := Same.seq e h
theorem Sub.tup {K : PySem.W.Frag} {H H' : Hp} {a : Addr} {xs : List V} (e : Sub H H') (h : SqT K H a xs) : SqT K H' a xs := by
  rcases h with (h | ⟨o, h⟩) | h
  · exact .inl (.inl (e _ _ h))
  · exact .inl (.inr ⟨o, e _ _ h⟩)
  · exact .inr h

section
variable {K : PySem.W.Frag} {N : Nm} {R R' H H' : Hp}
mutual
theorem Rep.mono (e : Sub R R') : ∀ {p v}, Rep K N R p v → Rep K N R' p v
  | _, _, .at v => .at v
  | _, _, .tup h q => .tup (e.tup h) (Reps.mono e q)
  | _, _, .lst h q => .lst (e _ _ h) (Reps.mono e q)
  | _, _, .scr h => .scr (e.seq h)
  | _, _, .ins h q => .ins (e _ _ h) (RepF.mono e q)
  | _, _, .exc h => .exc (e _ _ h)
  | _, _, .excF h h' => .excF (e _ _ h) (e _ _ h')
  | _, _, .dct h hl q => .dct (e _ _ h) hl (Reps.mono e q)
theorem Reps.mono (e : Sub R R') : ∀ {p v}, Reps K N R p v → Reps K N R' p v
  | _, _, .nil => .nil
  | _, _, .cons h q => .cons (Rep.mono e h) (Reps.mono e q)
theorem RepF.mono (e : Sub R R') : ∀ {p v}, RepF K N R p v → RepF K N R' p v
  | _, _, .nil => .nil
  | _, _, .cons h q => .cons (Rep.mono e h) (RepF.mono e q)
end
theorem Reps.length : ∀ {ps vs}, Reps K N R ps vs → ps.length = vs.length
  | _, _, .nil => rfl
  | _, _, .cons _ q => congrArg Nat.succ (Reps.length q)
theorem Reps.get : ∀ {ps vs} {i : Nat} {p}, Reps K N R ps vs → ps[i]? = some p → ∃ v, vs[i]? = some v ∧ Rep K N R p v
  | _, _, i, p, .nil, e => by simp at e
  | _, _, 0, p, .cons h q, e => by simp at e; subst e; exact ⟨_, rfl, h⟩
  | _, _, i + 1, p, .cons h q, e => by
    obtain ⟨v, h1, h2⟩ := Reps.get (i := i) (p := p) q (by simpa using e)
    exact ⟨v, by simpa using h1, h2⟩
theorem Reps.getV : ∀ {ps vs} {i : Nat} {v}, Reps K N R ps vs → vs[i]? = some v → ∃ p, ps[i]? = some p ∧ Rep K N R p v
  | _, _, i, p, .nil, e => by simp at e
  | _, _, 0, p, .cons h q, e => by simp at e; subst e; exact ⟨_, rfl, h⟩
  | _, _, i + 1, v, .cons h q, e => by
    obtain ⟨p, h1, h2⟩ := Reps.getV (i := i) (v := v) q (by simpa using e)
    exact ⟨p, by simpa using h1, h2⟩
theorem Reps.append : ∀ {ps vs qs us}, Reps K N R ps vs → Reps K N R qs us → Reps K N R (ps ++ qs) (vs ++ us)
  | _, _, _, _, .nil, s => s
  | _, _, _, _, .cons h q, s => .cons h (Reps.append q s)
theorem Reps.take : ∀ {ps vs} (n : Nat), Reps K N R ps vs → Reps K N R (ps.take n) (vs.take n)
  | _, _, 0, _ => .nil
  | _, _, _ + 1, .nil => .nil
  | _, _, n + 1, .cons h q => .cons h (Reps.take n q)
theorem Reps.drop : ∀ {ps vs} (n : Nat), Reps K N R ps vs → Reps K N R (ps.drop n) (vs.drop n)
  | _, _, 0, q => q
  | _, _, _ + 1, .nil => .nil
  | _, _, n + 1, .cons h q => Reps.drop n q
theorem Reps.set {p v} (h : Rep K N R p v) : ∀ {ps vs} (n : Nat), Reps K N R ps vs → Reps K N R (ps.set n p) (vs.set n v)
  | _, _, _, .nil => .nil
  | _, _, 0, .cons _ q => .cons h q
  | _, _, n + 1, .cons k q => .cons k (Reps.set h n q)
theorem Reps.ints : ∀ (ns : List Int), Reps K N R (ns.map PV.int) (ns.map V.int)
  | [] => .nil
  | n :: ns => .cons (.at _) (Reps.ints ns)
theorem Reps.one {p v} (h : Rep K N R p v) : Reps K N R [p] [v] := .cons h .nil
end

/-! ### slots, states -/
/-- a slot: a value that stays, or a list (an instance) of one's own that may change -/
inductive Sl where
  | fz (p : PV) | ow (xs : List PV) | oi (c : Nat) (fs : List (Nat × PV))
def Sl.own : Sl → Bool
  | .fz _ => false
  | _ => true
abbrev Env := List (Option Sl)
/-- what is to be read there -/
def Sl.pv : Sl → PV
  | .fz p => p
  | .ow xs => .lst xs
  | .oi c fs => .ins c fs
/-- what an expression gives: a value that stays, the thing that slot i holds, a new thing of one's own -/
inductive EV where
  | fz (p : PV) | vr (i : Nat) | nw (s : Sl)

def Own (ρ : Env) (σ : St) (a : Addr) : Prop := ∃ (i : Nat) (x : Sl), ρ[i]? = some (some x) ∧ x.own = true ∧ σ[i]? = some (some (.ref a))
def SlAt (K : PySem.W.Frag) (N : Nm) (H R : Hp) (x : Sl) (v : V) : Prop := match x with
  | .fz p => Rep K N R p v
  | .ow xs => ∃ a vs, v = .ref a ∧ H a = some (.lst vs) ∧ Reps K N R xs vs ∧ R a = none
  | .oi c fs => ∃ a dx gs, v = .ref a ∧ H a = some (.ins (N.cl c) dx gs) ∧ RepF K N R fs gs ∧ R a = none
structure SR (K : PySem.W.Frag) (N : Nm) (H R : Hp) (ρ : Env) (σ : St) : Prop where
  sub : Sub R H
  len : ρ.length = σ.length
  at_ : ∀ (i : Nat) (x : Sl), ρ[i]? = some (some x) → ∃ v, σ[i]? = some (some v) ∧ SlAt K N H R x v
  sep : ∀ (i j : Nat) (x y : Sl) (a : Addr), ρ[i]? = some (some x) → ρ[j]? = some (some y) → x.own = true → y.own = true → σ[i]? = some (some (.ref a)) → σ[j]? = some (some (.ref a)) → i = j
/-- what is kept from one state to a later one -/
structure Stp (H R : Hp) (ρ : Env) (σ : St) (H' R' : Hp) (ρ' : Env) (σ' : St) : Prop where
  sub : Sub R R'
  keep : ∀ a o, H a = some o → ¬ Own ρ σ a → H' a = some o
  new : ∀ a o, R' a = some o → R a = some o ∨ Own ρ σ a ∨ H a = none
  own : ∀ a, Own ρ' σ' a → Own ρ σ a ∨ H a = none
  live : ∀ a, H' a = none → H a = none
theorem Stp.refl {H R : Hp} {ρ : Env} {σ : St} : Stp H R ρ σ H R ρ σ := ⟨Sub.refl _, fun _ _ h _ => h, fun _ _ h => .inl h, fun _ h => .inl h, fun _ h => h⟩
theorem Stp.trans {H R H1 R1 H2 R2 : Hp} {ρ ρ1 ρ2 : Env} {σ σ1 σ2 : St} (a : Stp H R ρ σ H1 R1 ρ1 σ1) (b : Stp H1 R1 ρ1 σ1 H2 R2 ρ2 σ2) : Stp H R ρ σ H2 R2 ρ2 σ2 where
  sub := a.sub.trans b.sub
  keep := fun x o h n => b.keep x o (a.keep x o h n) fun w => by
    rcases a.own x w with q | q
    · exact n q
    · rw [q] at h; cases h
  new := fun x o h => by
    rcases b.new x o h with q | q | q
    · exact a.new x o q
    · exact .inr (a.own x q)
    · exact .inr (.inr (a.live x q))
  own := fun x h => by
    rcases b.own x h with q | q
    · exact a.own x q
    · exact .inr (a.live x q)
  live := fun x h => a.live x (b.live x h)

/-- the value v stands for p, to be read now: a list of one's own too -/
def RepD (K : PySem.W.Frag) (N : Nm) (H R : Hp) (p : PV) (v : V) : Prop := match p with
  | .lst xs => ∃ a vs, v = .ref a ∧ H a = some (.lst vs) ∧ Reps K N R xs vs
  | .ins c fs => ∃ a dx gs, v = .ref a ∧ H a = some (.ins (N.cl c) dx gs) ∧ RepF K N R fs gs
  | p => Rep K N R p v
theorem Rep.d {K : PySem.W.Frag} {N : Nm} {H R : Hp} {p : PV} {v : V} (h : Rep K N R p v) (e : Sub R H) : RepD K N H R p v := by
  cases h with
  | «at» v => exact .at v
  | tup h q => exact .tup h q
  | lst h q => exact ⟨_, _, rfl, e _ _ h, q⟩
  | scr h => exact .scr h
  | ins h q => exact ⟨_, _, _, rfl, e _ _ h, q⟩
  | exc h => exact .exc h
  | excF h h' => exact .excF h h'
  | dct h hl q => exact .dct h hl q
def EvR (K : PySem.W.Frag) (N : Nm) (H H' R' : Hp) (ρ' : Env) (σ : St) (x : EV) (v : V) : Prop := match x with
  | .fz p => Rep K N R' p v
  | .vr i => σ[i]? = some (some v)
  | .nw s => s.own = true ∧ SlAt K N H' R' s v ∧ ∃ a, v = .ref a ∧ ¬ Own ρ' σ a ∧ H a = none
/-- what stands at a slot of one's own is kept, where its object is -/
theorem SlAt.keep {K : PySem.W.Frag} {N : Nm} {H R H' R' : Hp} {x : Sl} {a : Addr} (ho : x.own = true) (h : SlAt K N H R x (.ref a)) (e : Sub R R') (k : ∀ o, H a = some o → H' a = some o) (n : ∀ o, H a = some o → R a = none → R' a = none) : SlAt K N H' R' x (.ref a) := by
  cases x with
  | fz p => cases ho
  | ow xs =>
    obtain ⟨b, vs, e1, h1, h2, h3⟩ := h
    cases e1
    exact ⟨a, vs, rfl, k _ h1, h2.mono e, n _ h1 h3⟩
  | oi c fs =>
    obtain ⟨b, dx, gs, e1, h1, h2, h3⟩ := h
    cases e1
    exact ⟨a, dx, gs, rfl, k _ h1, h2.mono e, n _ h1 h3⟩
theorem SlAt.there {K : PySem.W.Frag} {N : Nm} {H R : Hp} {x : Sl} {v : V} (ho : x.own = true) (h : SlAt K N H R x v) : ∃ a o, v = .ref a ∧ H a = some o ∧ R a = none := by
  cases x with
  | fz p => cases ho
  | ow xs =>
    obtain ⟨b, vs, e1, h1, h2, h3⟩ := h
    exact ⟨b, _, e1, h1, h3⟩
  | oi c fs =>
    obtain ⟨b, dx, gs, e1, h1, h2, h3⟩ := h
    exact ⟨b, _, e1, h1, h3⟩
/-- a slot as a value to be read -/
theorem SlAt.d {K : PySem.W.Frag} {N : Nm} {H R : Hp} {x : Sl} {v : V} (h : SlAt K N H R x v) (e : Sub R H) : RepD K N H R x.pv v := by
  cases x with
  | fz p => exact Rep.d h e
  | ow xs =>
    obtain ⟨b, vs, e1, h1, h2, h3⟩ := h
    exact ⟨b, vs, e1, h1, h2⟩
  | oi c fs =>
    obtain ⟨b, dx, gs, e1, h1, h2, h3⟩ := h
    exact ⟨b, dx, gs, e1, h1, h2⟩
theorem Stp.rnone {H R H' R' : Hp} {ρ ρ' : Env} {σ σ' : St} (s : Stp H R ρ σ H' R' ρ' σ') {a : Addr} {o : HO} (h : H a = some o) (n : ¬ Own ρ σ a) (r : R a = none) : R' a = none := by
  cases q : R' a with
  | none => rfl
  | some u =>
    rcases s.new a u q with z | z | z
    · rw [z] at r; cases r
    · exact absurd z n
    · rw [z] at h; cases h
theorem EvR.mono {K : PySem.W.Frag} {N : Nm} {H H1 R1 H2 R2 : Hp} {ρ1 ρ2 : Env} {σ : St} {x : EV} {v : V} (h : EvR K N H H1 R1 ρ1 σ x v) (s : Stp H1 R1 ρ1 σ H2 R2 ρ2 σ) : EvR K N H H2 R2 ρ2 σ x v := by
  cases x with
  | fz p => exact Rep.mono s.sub h
  | vr i => exact h
  | nw x =>
    obtain ⟨ho, h1, a, e, h4, h5⟩ := h
    subst e
    obtain ⟨b, o, e, h6, h7⟩ := h1.there ho
    cases e
    refine ⟨ho, h1.keep ho s.sub (fun o q => s.keep a o q h4) (fun o q r => s.rnone q h4 r), a, rfl, fun w => ?_, h5⟩
    rcases s.own a w with z | z
    · exact h4 z
    · rw [z] at h6; cases h6
/-- seen from an earlier heap -/
theorem EvR.early {K : PySem.W.Frag} {N : Nm} {H0 H H1 R1 : Hp} {ρ1 : Env} {σ : St} {x : EV} {v : V} (h : EvR K N H H1 R1 ρ1 σ x v) (l : ∀ a, H a = none → H0 a = none) : EvR K N H0 H1 R1 ρ1 σ x v := by
  cases x with
  | fz p => exact h
  | vr i => exact h
  | nw x =>
    obtain ⟨ho, h1, a, e, h4, h5⟩ := h
    exact ⟨ho, h1, a, e, h4, l a h5⟩

/-! ### outcomes -/
/-- an exception: its class, its field -/
structure Xc where
  c : Nat
  f : Option (Nat × V)
inductive Rz (α : Type) where
  | ok (a : α) (ρ : Env) | ex (e : Xc) (ρ : Env) | no
abbrev M (α : Type) := Env → Rz α
def pur {α : Type} (a : α) : M α := fun ρ => .ok a ρ
def no {α : Type} : M α := fun _ => .no
def bnd {α β : Type} (m : M α) (k : α → M β) : M β := fun ρ => match m ρ with
  | .ok a ρ' => k a ρ'
  | .ex e ρ' => .ex e ρ'
  | .no => .no
def lift {α : Type} (o : Option α) : M α := fun ρ => match o with
  | some a => .ok a ρ
  | none => .no

def XcR (N : Nm) (R' : Hp) (e : Xc) (c : Value) (d : Option Addr) : Prop := c = .ref (N.cl e.c) ∧ match e.f with
  | none => d = none
  | some (n, v) => ∃ dd, d = some dd ∧ R' dd = some (.xd [(N.fl n, v)])

/-- what is asked behind: VR start heap, heap, R, env, slots, the outcome, the value -/
def Pst {α β : Type} (K : PySem.W.Frag) (N : Nm) (VR : Hp → Hp → Hp → Env → St → α → β → Prop) (W : WX) (r : Rz α) (σ : St) (H R : Hp) (ρ : Env) (Q : β → Hp → Prop) : Prop := match r with
  | .ok x ρ' => ∀ v H' R', Stp H R ρ σ H' R' ρ' σ → SR K N H' R' ρ' σ → VR H H' R' ρ' σ x v → Q v H'
  | .ex e ρ' => ∀ c d H' R', Stp H R ρ σ H' R' ρ' σ → SR K N H' R' ρ' σ → XcR N R' e c d → W c d σ H'
  | .no => False
/-- the reading of an expression, of a test, of arguments -/
def tE (K : PySem.W.Frag) (N : Nm) (W : WX) (f : M EV) : TE := fun σ H Q => ∃ ρ R, SR K N H R ρ σ ∧ Pst K N (EvR K N) W (f ρ) σ H R ρ Q
def BoR : Hp → Hp → Hp → Env → St → Bool → Bool → Prop := fun _ _ _ _ _ x v => v = x
def tT (K : PySem.W.Frag) (N : Nm) (W : WX) (f : M Bool) : TT := fun σ H Q => ∃ ρ R, SR K N H R ρ σ ∧ Pst K N BoR W (f ρ) σ H R ρ Q
def EvsR (K : PySem.W.Frag) (N : Nm) (H H' R' : Hp) (ρ' : Env) (σ : St) (xs : List EV) (vs : List V) : Prop := xs.length = vs.length ∧ (∀ (i : Nat) x v, xs[i]? = some x → vs[i]? = some v → EvR K N H H' R' ρ' σ x v) ∧
  ∀ (i j : Nat) x y a, xs[i]? = some (.nw x) → xs[j]? = some (.nw y) → vs[i]? = some (.ref a) → vs[j]? = some (.ref a) → i = j
def tA (K : PySem.W.Frag) (N : Nm) (W : WX) (f : M (List EV)) : TA := fun σ H Q => ∃ ρ R, SR K N H R ρ σ ∧ Pst K N (EvsR K N) W (f ρ) σ H R ρ Q

/-- one behind the other -/
theorem Pst.bnd {α β γ δ : Type} {K : PySem.W.Frag} {N : Nm} {VR : Hp → Hp → Hp → Env → St → α → β → Prop} {VR' : Hp → Hp → Hp → Env → St → γ → δ → Prop} {W : WX} {m : M α} {k : α → M γ} {σ : St} {H R : Hp} {ρ : Env} {Q : δ → Hp → Prop} {Q' : β → Hp → Prop}
    (h : Pst K N VR' W (B.bnd m k ρ) σ H R ρ Q)
    (hk : ∀ x ρ' v H' R', Stp H R ρ σ H' R' ρ' σ → SR K N H' R' ρ' σ → VR H H' R' ρ' σ x v → Pst K N VR' W (k x ρ') σ H R ρ Q → Q' v H') : Pst K N VR W (m ρ) σ H R ρ Q' := by
  unfold B.bnd at h
  cases e : m ρ with
  | ok x ρ' =>
    rw [e] at h
    exact fun v H' R' s r vr => hk x ρ' v H' R' s r vr h
  | ex e' ρ' =>
    rw [e] at h
    exact h
  | no =>
    rw [e] at h
    exact h.elim
/-- asked from a later state -/
theorem Pst.later {γ δ : Type} {K : PySem.W.Frag} {N : Nm} {VR : Hp → Hp → Hp → Env → St → γ → δ → Prop} {W : WX} {r : Rz γ} {σ : St} {H R H1 R1 : Hp} {ρ ρ1 : Env} {Q : δ → Hp → Prop}
    (h : Pst K N VR W r σ H R ρ Q) (s : Stp H R ρ σ H1 R1 ρ1 σ) (hv : ∀ H' R' ρ' x v, Stp H1 R1 ρ1 σ H' R' ρ' σ → VR H1 H' R' ρ' σ x v → VR H H' R' ρ' σ x v) : Pst K N VR W r σ H1 R1 ρ1 Q := by
  cases r with
  | ok x ρ' => exact fun v H' R' s' r' vr => h v H' R' (s.trans s') r' (hv _ _ _ _ _ s' vr)
  | ex e ρ' => exact fun c d H' R' s' r' x => h c d H' R' (s.trans s') r' x
  | no => exact h.elim
theorem Pst.laterE {K : PySem.W.Frag} {N : Nm} {W : WX} {r : Rz EV} {σ : St} {H R H1 R1 : Hp} {ρ ρ1 : Env} {Q : V → Hp → Prop}
    (h : Pst K N (EvR K N) W r σ H R ρ Q) (s : Stp H R ρ σ H1 R1 ρ1 σ) : Pst K N (EvR K N) W r σ H1 R1 ρ1 Q := h.later s fun _ _ _ _ _ _ e => e.early s.live
end B

set_option Elab.async false
set_option linter.all false
set_option maxRecDepth 100000
set_option maxHeartbeats 4000000
/-! B1: expressions by content -/
namespace B
open PySem L2

theorem pe_weak {X : Cx} {e : Expr} {t t' : TE} (h : PE X e t) (w : ∀ σ H Q, t' σ H Q → t σ H Q) : PE X e t' := ⟨fun pins s σ H Q I q => h.run pins s σ H Q I (w σ H Q q)⟩
theorem pt_weak {X : Cx} {e : Expr} {t t' : TT} (h : PT X e t) (w : ∀ σ H Q, t' σ H Q → t σ H Q) : PT X e t' := ⟨fun pins s σ H Q I q => h.run pins s σ H Q I (w σ H Q q)⟩
theorem pa_weak {X : Cx} {e : List Expr} {t t' : TA} (h : PA X e t) (w : ∀ σ H Q, t' σ H Q → t σ H Q) : PA X e t' := ⟨fun pos pins s σ H Q I q => h.run pos pins s σ H Q I (w σ H Q q)⟩
theorem ps_weak {X : Cx} {e : Stmt} {t t' : TS} (h : PS X e t) (w : ∀ D σ H, t' D σ H → t D σ H) : PS X e t' := ⟨fun pins s σ H D I q => h.run pins s σ H D I (w D σ H q)⟩
theorem pss_weak {X : Cx} {e : List Stmt} {t t' : TS} (h : PSs X e t) (w : ∀ D σ H, t' D σ H → t D σ H) : PSs X e t' := ⟨fun pins s σ H D I q => h.run pins s σ H D I (w D σ H q)⟩

abbrev BE (X : Cx) (N : Nm) (W : WX) (e : Expr) (f : M EV) : Prop := PE X e (tE X.K N W f)
abbrev BT (X : Cx) (N : Nm) (W : WX) (e : Expr) (f : M Bool) : Prop := PT X e (tT X.K N W f)
abbrev BA (X : Cx) (N : Nm) (W : WX) (es : List Expr) (f : M (List EV)) : Prop := PA X es (tA X.K N W f)

section
variable {K : PySem.W.Frag} {N : Nm} {W : WX} {H R H' R' H0 R0 : Hp} {ρ ρ' ρ0 : Env} {σ : St}

/-! ### growing -/
structure Gr (H R H' R' : Hp) : Prop where
  sub : Sub R R'
  up : Sub H H'
  rh : Sub R' H'
  new : ∀ a o, R' a = some o → R a = some o ∨ H a = none
theorem Gr.refl (h : Sub R H) : Gr H R H R := ⟨Sub.refl _, Sub.refl _, h, fun _ _ q => .inl q⟩
theorem Gr.stp (g : Gr H R H' R') : Stp H R ρ σ H' R' ρ σ := ⟨g.sub, fun a o h _ => g.up a o h, fun a o h => (g.new a o h).elim .inl fun z => .inr (.inr z), fun a h => .inl h, fun a h => by
  cases q : H a with
  | none => rfl
  | some o => rw [g.up a o q] at h; cases h⟩
theorem Gr.rnone (g : Gr H R H' R') {a : Addr} {o : HO} (h : H a = some o) (r : R a = none) : R' a = none := by
  cases q : R' a with
  | none => rfl
  | some u =>
    rcases g.new a u q with z | z
    · rw [z] at r; cases r
    · rw [z] at h; cases h
theorem Gr.sr (g : Gr H R H' R') (r : SR K N H R ρ σ) : SR K N H' R' ρ σ := ⟨g.rh, r.len, fun i x e => by
  obtain ⟨v, h1, h2⟩ := r.at_ i x e
  refine ⟨v, h1, ?_⟩
  cases ho : x.own with
  | false =>
    cases x with
    | fz p => exact Rep.mono g.sub h2
    | ow xs => cases ho
    | oi c fs => cases ho
  | true =>
    obtain ⟨a, o, e1, h3, h4⟩ := h2.there ho
    subst e1
    exact h2.keep ho g.sub (fun o q => g.up a o q) fun o q z => g.rnone q z, r.sep⟩
/-- a new object that stays -/
theorem Gr.add {a : Addr} {o : HO} (h : Sub R H) (n : H a = none) : Gr H R (upd H a o) (upd R a o) := by
  have rn : R a = none := by
    cases q : R a with
    | none => rfl
    | some u => rw [h a u q] at n; cases n
  refine ⟨fun b u q => by rw [upd_ne (ne_of_none q rn)]; exact q, fun b u q => by rw [upd_ne (ne_of_none q n)]; exact q, fun b u q => ?_, fun b u q => ?_⟩
  · by_cases hb : b = a
    · subst hb; rw [upd_same] at q ⊢; exact q
    · rw [upd_ne hb] at q ⊢; exact h b u q
  · by_cases hb : b = a
    · subst hb; exact .inr n
    · rw [upd_ne hb] at q; exact .inl q
/-- a new object of one's own -/
theorem Gr.new_ {a : Addr} {o : HO} (h : Sub R H) (n : H a = none) : Gr H R (upd H a o) R :=
  ⟨Sub.refl _, fun b u q => by rw [upd_ne (ne_of_none q n)]; exact q, fun b u q => by rw [upd_ne (ne_of_none (h b u q) n)]; exact h b u q, fun b u q => .inl q⟩
theorem rnone_of (h : Sub R H) {a : Addr} (n : H a = none) : R a = none := by
  cases q : R a with
  | none => rfl
  | some u => rw [h a u q] at n; cases n

theorem SR.own_there (r : SR K N H R ρ σ) {a : Addr} (w : Own ρ σ a) : ∃ o, H a = some o ∧ R a = none := by
  obtain ⟨i, x, h1, h2, h3⟩ := w
  obtain ⟨v, h4, h5⟩ := r.at_ i x h1
  rw [h3] at h4; cases h4
  obtain ⟨b, o, e, h6, h7⟩ := h5.there h2
  cases e
  exact ⟨o, h6, h7⟩
theorem SR.not_own (r : SR K N H R ρ σ) {a : Addr} (n : H a = none) : ¬ Own ρ σ a := fun w => by
  obtain ⟨o, h, _⟩ := r.own_there w
  rw [n] at h; cases h

/-! ### reading -/
def getV (i : Nat) : M EV := fun ρ => match ρ[i]? with
  | some (some (.fz p)) => .ok (.fz p) ρ
  | some (some _) => .ok (.vr i) ρ
  | _ => .no
def deref (x : EV) : M PV := fun ρ => match x with
  | .fz p => .ok p ρ
  | .nw s => .ok s.pv ρ
  | .vr i => match ρ[i]? with
    | some (some s) => .ok s.pv ρ
    | _ => .no
theorem deref_ok {x : EV} {v : V} (r : SR K N H R ρ σ) (ev : EvR K N H0 H R ρ σ x v) : (∃ p, deref x ρ = .ok p ρ ∧ RepD K N H R p v) ∨ deref x ρ = .no := by
  cases x with
  | fz p => exact .inl ⟨p, rfl, Rep.d ev r.sub⟩
  | nw s => exact .inl ⟨s.pv, rfl, ev.2.1.d r.sub⟩
  | vr i =>
    unfold deref
    dsimp only
    cases e : ρ[i]? with
    | none => exact .inr rfl
    | some o =>
      cases o with
      | none => exact .inr rfl
      | some s =>
        obtain ⟨u, h1, h2⟩ := r.at_ i s e
        have h3 : σ[i]? = some (some v) := ev
        rw [h1] at h3; cases h3
        exact .inl ⟨s.pv, rfl, h2.d r.sub⟩
def frz (x : EV) : M PV := fun ρ => match x with
  | .fz p => .ok p ρ
  | .nw s => .ok s.pv ρ
  | .vr i => match ρ[i]? with
    | some (some s) => .ok s.pv (if s.own then ρ.set i (some (.fz s.pv)) else ρ)
    | _ => .no
/-- R with what stands at a besides -/
def ice (R H : Hp) (a : Addr) : Hp := fun b => if b = a then H b else R b
theorem ice_same {a : Addr} : ice R H a a = H a := if_pos rfl
theorem ice_ne {a b : Addr} (h : b ≠ a) : ice R H a b = R b := if_neg h
theorem ice_sub {a : Addr} (n : R a = none) : Sub R (ice R H a) := fun b o q => by rw [ice_ne (ne_of_none q n)]; exact q
theorem ice_rh {a : Addr} (h : Sub R H) : Sub (ice R H a) H := fun b o q => by
  by_cases e : b = a
  · subst e; rw [ice_same] at q; exact q
  · rw [ice_ne e] at q; exact h b o q
/-- frozen, it is a value that stays -/
theorem SlAt.ice {s : Sl} {a : Addr} (ho : s.own = true) (h : SlAt K N H R s (.ref a)) : Rep K N (ice R H a) s.pv (.ref a) := by
  cases s with
  | fz p => cases ho
  | ow xs =>
    obtain ⟨b, vs, e1, h1, h2, h3⟩ := h
    cases e1
    exact .lst (by rw [ice_same]; exact h1) (h2.mono (ice_sub h3))
  | oi c fs =>
    obtain ⟨b, dx, gs, e1, h1, h2, h3⟩ := h
    cases e1
    exact .ins (by rw [ice_same]; exact h1) (h2.mono (ice_sub h3))
theorem own_set_fz {i : Nat} {p : PV} {a : Addr} (w : Own (ρ.set i (some (.fz p))) σ a) : Own ρ σ a := by
  obtain ⟨j, x, h1, h2, h3⟩ := w
  by_cases e : j = i
  · subst e
    by_cases hl : j < ρ.length
    · rw [List.getElem?_set_self hl] at h1
      cases h1; cases h2
    · rw [List.getElem?_eq_none (by rw [List.length_set]; omega)] at h1; cases h1
  · rw [List.getElem?_set_ne (Ne.symm e)] at h1
    exact ⟨j, x, h1, h2, h3⟩
/-- a thing of one's own is frozen: a the object of x, which no slot of ρ' owns -/
theorem ice_ok {a : Addr} (B : Stp H0 R0 ρ0 σ H R ρ σ) (r : SR K N H R ρ σ) (hn : R a = none) (hw : Own ρ σ a ∨ H0 a = none) (hl : ρ'.length = ρ.length)
    (hat : ∀ (i : Nat) (x : Sl), ρ'[i]? = some (some x) → ρ[i]? = some (some x) ∧ (x.own = true → σ[i]? ≠ some (some (V.ref a))) ∨ ∃ v, σ[i]? = some (some v) ∧ x.own = false ∧ SlAt K N H (ice R H a) x v) :
    Stp H0 R0 ρ0 σ H (ice R H a) ρ' σ ∧ SR K N H (ice R H a) ρ' σ := by
  have ow : ∀ (i : Nat) (x : Sl), ρ'[i]? = some (some x) → x.own = true → ρ[i]? = some (some x) ∧ σ[i]? ≠ some (some (V.ref a)) := fun i x e ho => by
    rcases hat i x e with ⟨h1, h2⟩ | ⟨v, _, h2, _⟩
    · exact ⟨h1, h2 ho⟩
    · rw [h2] at ho; cases ho
  refine ⟨⟨B.sub.trans (ice_sub hn), B.keep, fun b o q => ?_, fun b w => ?_, B.live⟩, ice_rh r.sub, hl.trans r.len, fun i x e => ?_, fun i j x y b hi hj hx hy => r.sep i j x y b (ow i x hi hx).1 (ow j y hj hy).1 hx hy⟩
  · by_cases e : b = a
    · subst e
      rcases hw with z | z
      · rcases B.own b z with z | z
        · exact .inr (.inl z)
        · exact .inr (.inr z)
      · exact .inr (.inr z)
    · rw [ice_ne e] at q; exact B.new b o q
  · obtain ⟨i, x, h1, h2, h3⟩ := w
    exact B.own b ⟨i, x, (ow i x h1 h2).1, h2, h3⟩
  · rcases hat i x e with ⟨h1, h2⟩ | ⟨v, h1, _, h2⟩
    · obtain ⟨v, h3, h4⟩ := r.at_ i x h1
      refine ⟨v, h3, ?_⟩
      cases ho : x.own with
      | false =>
        cases x with
        | fz p => exact Rep.mono (ice_sub hn) h4
        | ow xs => cases ho
        | oi c fs => cases ho
      | true =>
        obtain ⟨b, o, e1, h5, h6⟩ := h4.there ho
        subst e1
        have hb : b ≠ a := fun z => h2 ho (by rw [h3, z])
        exact h4.keep ho (ice_sub hn) (fun o q => q) fun o q z => by rw [ice_ne hb]; exact z
    · exact ⟨v, h1, h2⟩
theorem frz_ok {x : EV} {v : V} (B : Stp H0 R0 ρ0 σ H R ρ σ) (r : SR K N H R ρ σ) (ev : EvR K N H0 H R ρ σ x v) :
    frz x ρ = .no ∨ ∃ p ρ' R', frz x ρ = .ok p ρ' ∧ Stp H0 R0 ρ0 σ H R' ρ' σ ∧ SR K N H R' ρ' σ ∧ Rep K N R' p v ∧ Sub R R' ∧
      ∀ y u, EvR K N H0 H R ρ σ y u → (∀ s t a, x = .nw s → y = .nw t → v = .ref a → u ≠ .ref a) → EvR K N H0 H R' ρ' σ y u := by
  cases x with
  | fz p => exact .inr ⟨p, ρ, R, rfl, B, r, ev, Sub.refl _, fun _ _ h _ => h⟩
  | nw s =>
    obtain ⟨ho, h1, a, rfl, h4, h5⟩ := ev
    obtain ⟨b, o, e, h6, h7⟩ := h1.there ho
    cases e
    obtain ⟨B', r'⟩ := ice_ok (ρ' := ρ) B r h7 (.inr h5) rfl fun i x e => .inl ⟨e, fun hx q => h4 ⟨i, x, e, hx, q⟩⟩
    refine .inr ⟨s.pv, ρ, _, rfl, B', r', h1.ice ho, ice_sub h7, fun y u h hd => ?_⟩
    cases y with
    | fz p => exact Rep.mono (ice_sub h7) h
    | vr i => exact h
    | nw t =>
      obtain ⟨hot, g1, b, rfl, g4, g5⟩ := h
      have hb : b ≠ a := fun z => hd s t a rfl rfl rfl (by rw [z])
      exact ⟨hot, g1.keep hot (ice_sub h7) (fun o q => q) fun o q z => by rw [ice_ne hb]; exact z, b, rfl, g4, g5⟩
  | vr i =>
    unfold frz
    dsimp only
    cases e : ρ[i]? with
    | none => exact .inl rfl
    | some o =>
      cases o with
      | none => exact .inl rfl
      | some s =>
        obtain ⟨u, h1, h2⟩ := r.at_ i s e
        have h3 : σ[i]? = some (some v) := ev
        rw [h1] at h3; cases h3
        cases ho : s.own with
        | false =>
          cases s with
          | fz p => exact .inr ⟨p, ρ, R, rfl, B, r, h2, Sub.refl _, fun _ _ h _ => h⟩
          | ow xs => cases ho
          | oi c fs => cases ho
        | true =>
          obtain ⟨a, o, rfl, h6, h7⟩ := h2.there ho
          have hil : i < ρ.length := (List.getElem?_eq_some_iff.mp e).1
          have wa : Own ρ σ a := ⟨i, s, e, ho, h1⟩
          obtain ⟨B', r'⟩ := ice_ok (ρ' := ρ.set i (some (.fz s.pv))) B r h7 (.inl wa) (by simp) fun j x ej => by
            by_cases hj : j = i
            · subst hj
              rw [List.getElem?_set_self hil] at ej
              cases ej
              exact .inr ⟨_, h1, rfl, h2.ice ho⟩
            · rw [List.getElem?_set_ne (Ne.symm hj)] at ej
              exact .inl ⟨ej, fun hx q => hj (r.sep j i x s a ej e hx ho q h1)⟩
          refine .inr ⟨s.pv, _, _, (by simp [ho]), B', r', h2.ice ho, ice_sub h7, fun y u h hd => ?_⟩
          cases y with
          | fz p => exact Rep.mono (ice_sub h7) h
          | vr k => exact h
          | nw t =>
            obtain ⟨hot, g1, b, rfl, g4, g5⟩ := h
            have hb : b ≠ a := fun z => g4 (by rw [z]; exact wa)
            exact ⟨hot, g1.keep hot (ice_sub h7) (fun o q => q) (fun o q z => by rw [ice_ne hb]; exact z), b, rfl, fun w => g4 (own_set_fz w), g5⟩
def frzs : List EV → M (List PV)
  | [] => pur []
  | x :: xs => bnd (frz x) fun p => bnd (frzs xs) fun ps => pur (p :: ps)
theorem EvsR.tail {x : EV} {xs : List EV} {v : V} {vs : List V} (h : EvsR K N H H' R' ρ' σ (x :: xs) (v :: vs)) : EvsR K N H H' R' ρ' σ xs vs :=
  ⟨by simpa using h.1, fun i y u e1 e2 => h.2.1 (i + 1) y u (by simpa using e1) (by simpa using e2), fun i j y z a e1 e2 e3 e4 => by
    have := h.2.2 (i + 1) (j + 1) y z a (by simpa using e1) (by simpa using e2) (by simpa using e3) (by simpa using e4)
    omega⟩
theorem frzs_ok : ∀ {xs : List EV} {vs : List V} {R : Hp} {ρ : Env}, Stp H0 R0 ρ0 σ H R ρ σ → SR K N H R ρ σ → EvsR K N H0 H R ρ σ xs vs →
    frzs xs ρ = .no ∨ ∃ ps ρ' R', frzs xs ρ = .ok ps ρ' ∧ Stp H0 R0 ρ0 σ H R' ρ' σ ∧ SR K N H R' ρ' σ ∧ Reps K N R' ps vs ∧ Sub R R'
  | [], vs, R, ρ, B, r, ev => by
    have : vs = [] := List.eq_nil_of_length_eq_zero ev.1.symm
    subst this
    exact .inr ⟨[], ρ, R, rfl, B, r, .nil, Sub.refl _⟩
  | x :: xs, [], R, ρ, B, r, ev => by have := ev.1; simp at this
  | x :: xs, v :: vs, R, ρ, B, r, ev => by
    rcases frz_ok B r (ev.2.1 0 x v rfl rfl) with h | ⟨p, ρ1, R1, e1, B1, r1, rp, sb, oth⟩
    · exact .inl (by simp [frzs, bnd, h])
    · have ev1 : EvsR K N H0 H R1 ρ1 σ xs vs := ⟨ev.tail.1, fun i y u e3 e4 => oth y u (ev.tail.2.1 i y u e3 e4) fun s t a z1 z2 z3 z4 => by
        have := ev.2.2 0 (i + 1) s t a (by simp [z1]) (by simp [e3, z2]) (by simp [z3]) (by simp [e4, z4])
        omega, ev.tail.2.2⟩
      rcases frzs_ok B1 r1 ev1 with h | ⟨ps, ρ2, R2, e2, B2, r2, rps, sb2⟩
      · exact .inl (by simp [frzs, bnd, e1, h])
      · exact .inr ⟨p :: ps, ρ2, R2, by simp [frzs, bnd, e1, e2, pur], B2, r2, .cons (Rep.mono sb2 rp) rps, sb.trans sb2⟩
/-- a PV that is given -/
def NvR (K : PySem.W.Frag) (N : Nm) (H H' R' : Hp) (e : EV) (v : V) : Prop := match e with
  | .fz p => Rep K N R' p v
  | .vr _ => False
  | .nw s => s.own = true ∧ SlAt K N H' R' s v ∧ ∃ a, v = .ref a ∧ H a = none
theorem NvR.ev {e : EV} {v : V} (h : NvR K N H H' R' e v) (r : SR K N H R ρ σ) : EvR K N H H' R' ρ σ e v := by
  cases e with
  | fz p => exact h
  | vr i => exact h.elim
  | nw s =>
    obtain ⟨h1, h2, a, h3, h4⟩ := h
    exact ⟨h1, h2, a, h3, r.not_own h4, h4⟩
/-- the end of an expression whose value is made out of R, H -/
theorem Pst.give {Q : V → Hp → Prop} {e : EV} {W : WX} (h : Pst K N (EvR K N) W (.ok e ρ) σ H0 R0 ρ0 Q) (B : Stp H0 R0 ρ0 σ H R ρ σ) (r : SR K N H R ρ σ) {v : V} (g : Gr H R H' R') (n : NvR K N H H' R' e v) : Q v H' :=
  h v H' R' (B.trans g.stp) (g.sr r) ((n.ev r).early B.live)

/-! ### operations on values -/
def OpS (K : PySem.W.Frag) (N : Nm) (r : R2) (s : PV → PV → Option EV) : Prop := ∀ (H R : Hp) p q e x y (Q : VK), Sub R H → RepD K N H R p x → RepD K N H R q y → s p q = some e → (∀ v H' R', Gr H R H' R' → NvR K N H H' R' e v → Q v H') → r x y H Q
def op2 (s : PV → PV → Option EV) (x y : EV) : M EV := bnd (deref x) fun p => bnd (deref y) fun q => lift (s p q)
theorem op2_ok {r : R2} {s : PV → PV → Option EV} (hs : OpS K N r s) {x y : EV} {v u : V} {Q : VK} (h : Pst K N (EvR K N) W (op2 s x y ρ) σ H0 R0 ρ0 Q) (B : Stp H0 R0 ρ0 σ H R ρ σ) (sr : SR K N H R ρ σ)
    {Ha Hb : Hp} (ex : EvR K N Ha H R ρ σ x v) (ey : EvR K N Hb H R ρ σ y u) : r v u H Q := by
  unfold op2 at h
  rcases deref_ok sr ex with ⟨p, e1, d1⟩ | e1
  · rcases deref_ok sr ey with ⟨q, e2, d2⟩ | e2
    · simp only [bnd, e1, e2] at h
      cases e3 : s p q with
      | none => rw [e3] at h; exact h.elim
      | some e =>
        rw [e3] at h
        exact hs H R p q e v u Q sr.sub d1 d2 e3 fun v' H' R' g n => Pst.give h B sr g n
    · simp only [bnd, e1, e2] at h
      exact h.elim
  · simp only [bnd, e1] at h
    exact h.elim
/-- the first one, else the second one -/
def oor (s s' : PV → PV → Option EV) : PV → PV → Option EV := fun p q => match s p q with
  | some e => some e
  | none => s' p q
theorem OpS.or {r r' : R2} {s s' : PV → PV → Option EV} (h : OpS K N r s) (h' : OpS K N r' s') : OpS K N (fun x y H Q => r x y H Q ∨ r' x y H Q) (oor s s') := fun H R p q e x y Q sb d1 d2 hs k => by
  unfold oor at hs
  cases e1 : s p q with
  | some z =>
    rw [e1] at hs
    cases hs
    exact .inl (h H R p q _ x y Q sb d1 d2 e1 k)
  | none =>
    rw [e1] at hs
    exact .inr (h' H R p q e x y Q sb d1 d2 hs k)
/-- an operation, then what is done with its value -/
theorem op2_use {r : R2} {s : PV → PV → Option EV} (hs : OpS K N r s) {x y : EV} {v u : V} {γ δ : Type} {VR' : Hp → Hp → Hp → Env → St → γ → δ → Prop} {k : EV → M γ} {Q : VK} {Q' : δ → Hp → Prop}
    (h : Pst K N VR' W (bnd (op2 s x y) k ρ) σ H0 R0 ρ0 Q') (B : Stp H0 R0 ρ0 σ H R ρ σ) (sr : SR K N H R ρ σ) {Ha Hb : Hp} (ex : EvR K N Ha H R ρ σ x v) (ey : EvR K N Hb H R ρ σ y u)
    (hk : ∀ e v' H' R', Stp H0 R0 ρ0 σ H' R' ρ σ → Stp H R ρ σ H' R' ρ σ → SR K N H' R' ρ σ → EvR K N H0 H' R' ρ σ e v' → Pst K N VR' W (k e ρ) σ H0 R0 ρ0 Q' → Q v' H') : r v u H Q := by
  unfold op2 at h
  rcases deref_ok sr ex with ⟨p, e1, d1⟩ | e1
  · rcases deref_ok sr ey with ⟨q, e2, d2⟩ | e2
    · simp only [bnd, e1, e2] at h
      cases e3 : s p q with
      | none => rw [e3] at h; exact h.elim
      | some e =>
        rw [e3] at h
        exact hs H R p q e v u Q sr.sub d1 d2 e3 fun v' H' R' g n => hk e v' H' R' (B.trans g.stp) g.stp (g.sr sr) ((n.ev sr).early B.live) h
    · simp only [bnd, e1, e2] at h
      exact h.elim
  · simp only [bnd, e1] at h
    exact h.elim
end

section
variable {X : Cx} {N : Nm} {W : WX} {a b : Expr} {es : List Expr} {pos : Pos} {f g : M EV}
theorem be_var (i : Nat) {x : Str} (hN : X.N[i]? = some x := by rfl) (hv : Vis X.env.scope x := by first | exact Or.inl rfl | exact Or.inr (Or.inl rfl) | exact Or.inr (Or.inr rfl)) (hd : (x == ("__debug__" : Str)) = false := by decide)
    (hcd : (x == ("__classdict__" : Str)) = false := by decide) : BE X N W (.Name x pos) (getV i) := pe_weak (pe_var hN hv hd hcd) fun σ H Q ⟨ρ, R, r, h⟩ => by
  unfold getV at h
  cases e : ρ[i]? with
  | none => rw [e] at h; exact h.elim
  | some o =>
    cases o with
    | none => rw [e] at h; exact h.elim
    | some s =>
      rw [e] at h
      obtain ⟨v, h1, h2⟩ := r.at_ i s e
      cases s with
      | fz p => exact ⟨v, h1, h v H R .refl r h2⟩
      | ow xs => exact ⟨v, h1, h v H R .refl r h1⟩
      | oi c fs => exact ⟨v, h1, h v H R .refl r h1⟩
theorem be_c {e : Expr} {v : V} (h : PE X e (tC v)) : BE X N W e (pur (.fz (.at v))) := pe_weak h fun σ H Q ⟨ρ, R, r, h⟩ => h v H R .refl r (.at v)
theorem be_int {i j} : BE X N W (.Constant (.int i) j pos) (pur (.fz (.int i))) := be_c pe_int
theorem be_bl {i j} : BE X N W (.Constant (.bool i) j pos) (pur (.fz (.bl i))) := be_c pe_bl
theorem be_non {j} : BE X N W (.Constant .none j pos) (pur (.fz .non)) := be_c pe_non
theorem be_str {i j} : BE X N W (.Constant (.str i) j pos) (pur (.fz (.str i))) := be_c pe_str
theorem be_op {op : Operator} {r : R2} {s : PV → PV → Option EV} (ho : OpR X (binaryOp op) r) (hs : OpS X.K N r s) (ha : BE X N W a f) (hb : BE X N W b g) : BE X N W (.BinOp a op b pos) (bnd f fun x => bnd g fun y => op2 s x y) :=
  pe_weak (pe_op ho ha hb) fun σ H Q ⟨ρ, R, r, h⟩ => ⟨ρ, R, r, Pst.bnd h fun x ρ1 v H1 R1 s1 r1 e1 h1 => ⟨ρ1, R1, r1, Pst.bnd (h1.laterE s1) fun y ρ2 u H2 R2 s2 r2 e2 h2 =>
    op2_ok hs h2 s2 r2 (e1.mono s2) e2⟩⟩
theorem be_cmp {op : CmpOp} {r : R2} {s : PV → PV → Option EV} (ho : OpR X (compareOp op) r) (hs : OpS X.K N r s) (ha : BE X N W a f) (hb : BE X N W b g) (hm : behindInMarks op b = false) : BE X N W (.Compare a [op] [b] pos) (bnd f fun x => bnd g fun y => op2 s x y) :=
  pe_weak (pe_cmpR ho ha hb hm) fun σ H Q ⟨ρ, R, r, h⟩ => ⟨ρ, R, r, Pst.bnd h fun x ρ1 v H1 R1 s1 r1 e1 h1 => ⟨ρ1, R1, r1, Pst.bnd (h1.laterE s1) fun y ρ2 u H2 R2 s2 r2 e2 h2 =>
    op2_ok hs h2 s2 r2 (e1.mono s2) e2⟩⟩
theorem be_ix {r : R2} {s : PV → PV → Option EV} (ho : IxR X r) (hs : OpS X.K N r s) (ha : BE X N W a f) (hb : BE X N W b g) (hm : PlainIx b) : BE X N W (.Subscript a b pos) (bnd f fun x => bnd g fun y => op2 s x y) :=
  pe_weak (pe_ix ho ha hb hm) fun σ H Q ⟨ρ, R, r, h⟩ => ⟨ρ, R, r, Pst.bnd h fun x ρ1 v H1 R1 s1 r1 e1 h1 => ⟨ρ1, R1, r1, Pst.bnd (h1.laterE s1) fun y ρ2 u H2 R2 s2 r2 e2 h2 =>
    op2_ok hs h2 s2 r2 (e1.mono s2) e2⟩⟩
end

/-! ### the operators' meanings -/
section
variable {K : PySem.W.Frag} {N : Nm}
theorem repd_int {H R : Hp} {i : Int} {v : V} (h : RepD K N H R (.int i) v) : v = .int i := by cases (show Rep K N R (.at (.int i)) v from h); rfl
theorem repd_at {H R : Hp} {i v : V} (h : RepD K N H R (.at i) v) : v = i := by cases (show Rep K N R (.at i) v from h); rfl
def sIc (c : Int → Int → Bool) (g : Int → Int → V) : PV → PV → Option EV
  | .at (.int i), .at (.int j) => if c i j then some (.fz (.at (g i j))) else none
  | _, _ => none
def sI (g : Int → Int → V) : PV → PV → Option EV
  | .at (.int i), .at (.int j) => some (.fz (.at (g i j)))
  | _, _ => none
theorem ops_I {C : Int → Int → Prop} {g : Int → Int → V} {c : Int → Int → Bool} (hc : ∀ i j, c i j = true → C i j) : OpS K N (rI C g) (sIc c g) := fun H R p q e x y Q sb d1 d2 hs k => by
  unfold sIc at hs
  split at hs
  · rename_i i j
    split at hs
    · rename_i h
      cases hs
      cases repd_at d1; cases repd_at d2
      exact ⟨i, j, rfl, rfl, hc _ _ h, k _ H R (Gr.refl sb) (.at _)⟩
    · cases hs
  · cases hs
theorem ops_I0 {g : Int → Int → V} : OpS K N (rI0 g) (sI g) := fun H R p q e x y Q sb d1 d2 hs k => by
  unfold sI at hs
  split at hs
  · rename_i i j
    cases hs
    cases repd_at d1; cases repd_at d2
    exact ⟨i, j, rfl, rfl, k _ H R (Gr.refl sb) (.at _)⟩
  · cases hs
end
end B

set_option Elab.async false
set_option linter.all false
set_option maxRecDepth 100000
set_option maxHeartbeats 4000000
/-! B2: statements by content -/
namespace B
open PySem L2

/-- what a statement does -/
inductive So where
  | nx (ρ : Env) | rt (x : EV) (ρ : Env) | bk (ρ : Env) | ct (ρ : Env) | ex (e : Xc) (ρ : Env) | no
abbrev MS := Env → So
def doS {α : Type} (m : M α) (k : α → MS) : MS := fun ρ => match m ρ with
  | .ok a ρ' => k a ρ'
  | .ex e ρ' => .ex e ρ'
  | .no => .no
def seq (g h : MS) : MS := fun ρ => match g ρ with
  | .nx ρ' => h ρ'
  | r => r
def nxt : MS := fun ρ => .nx ρ
/-- the slots at P stay where they are -/
def Prot (P : List Nat) (σ σ' : St) : Prop := ∀ i ∈ P, σ'[i]? = σ[i]?
theorem Prot.refl {P : List Nat} {σ : St} : Prot P σ σ := fun _ _ => rfl
theorem Prot.trans {P : List Nat} {σ σ1 σ2 : St} (a : Prot P σ σ1) (b : Prot P σ1 σ2) : Prot P σ σ2 := fun i h => (b i h).trans (a i h)
def PsS (K : PySem.W.Frag) (N : Nm) (W : WX) (P : List Nat) (r : So) (σ : St) (H R : Hp) (ρ : Env) (D : Ends) : Prop := match r with
  | .nx ρ' => ∀ σ' H' R', Stp H R ρ σ H' R' ρ' σ' → SR K N H' R' ρ' σ' → Prot P σ σ' → D.nx σ' H'
  | .bk ρ' => ∀ σ' H' R', Stp H R ρ σ H' R' ρ' σ' → SR K N H' R' ρ' σ' → Prot P σ σ' → D.bk σ' H'
  | .ct ρ' => ∀ σ' H' R', Stp H R ρ σ H' R' ρ' σ' → SR K N H' R' ρ' σ' → Prot P σ σ' → D.ct σ' H'
  | .rt x ρ' => ∀ v σ' H' R', Stp H R ρ σ H' R' ρ' σ' → SR K N H' R' ρ' σ' → Prot P σ σ' → EvR K N H H' R' ρ' σ' x v → D.rt v H'
  | .ex e ρ' => ∀ c d σ' H' R', Stp H R ρ σ H' R' ρ' σ' → SR K N H' R' ρ' σ' → Prot P σ σ' → XcR N R' e c d → W c d σ' H'
  | .no => False
def tS (K : PySem.W.Frag) (N : Nm) (W : WX) (P : List Nat) (g : MS) : TS := fun D σ H => ∃ ρ R, SR K N H R ρ σ ∧ PsS K N W P (g ρ) σ H R ρ D
abbrev BS (X : Cx) (N : Nm) (W : WX) (P : List Nat) (st : Stmt) (g : MS) : Prop := PS X st (tS X.K N W P g)
abbrev BSs (X : Cx) (N : Nm) (W : WX) (P : List Nat) (st : List Stmt) (g : MS) : Prop := PSs X st (tS X.K N W P g)

section
variable {K : PySem.W.Frag} {N : Nm} {W : WX} {P : List Nat} {H R H' R' H0 R0 : Hp} {ρ ρ' ρ0 : Env} {σ σ' σ0 : St} {D : Ends}
theorem PsS.later {r : So} (h : PsS K N W P r σ0 H0 R0 ρ0 D) (s : Stp H0 R0 ρ0 σ0 H R ρ σ) (p : Prot P σ0 σ) : PsS K N W P r σ H R ρ D := by
  cases r with
  | nx ρ' => exact fun σ' H' R' s' r' p' => h σ' H' R' (s.trans s') r' (p.trans p')
  | bk ρ' => exact fun σ' H' R' s' r' p' => h σ' H' R' (s.trans s') r' (p.trans p')
  | ct ρ' => exact fun σ' H' R' s' r' p' => h σ' H' R' (s.trans s') r' (p.trans p')
  | rt x ρ' => exact fun v σ' H' R' s' r' p' e => h v σ' H' R' (s.trans s') r' (p.trans p') (e.early s.live)
  | ex e ρ' => exact fun c d σ' H' R' s' r' p' x => h c d σ' H' R' (s.trans s') r' (p.trans p') x
  | no => exact h.elim
/-- an expression, then what is done with it -/
theorem PsS.doE {m : M EV} {k : EV → MS} {Q' : V → Hp → Prop} (hW : ∀ c d H, W c d σ H → W c d σ H) (h : PsS K N W P (doS m k ρ) σ H R ρ D)
    (hk : ∀ x ρ' v H' R', Stp H R ρ σ H' R' ρ' σ → SR K N H' R' ρ' σ → EvR K N H H' R' ρ' σ x v → PsS K N W P (k x ρ') σ H R ρ D → Q' v H') : Pst K N (EvR K N) W (m ρ) σ H R ρ Q' := by
  unfold doS at h
  cases e : m ρ with
  | ok x ρ' =>
    rw [e] at h
    exact fun v H' R' s r ev => hk x ρ' v H' R' s r ev h
  | ex e' ρ' =>
    rw [e] at h
    exact fun c d H' R' s r x => h c d σ H' R' s r Prot.refl x
  | no =>
    rw [e] at h
    exact h.elim
theorem PsS.doT {m : M Bool} {k : Bool → MS} {Q' : Bool → Hp → Prop} (h : PsS K N W P (doS m k ρ) σ H R ρ D)
    (hk : ∀ x ρ' H' R', Stp H R ρ σ H' R' ρ' σ → SR K N H' R' ρ' σ → PsS K N W P (k x ρ') σ H R ρ D → Q' x H') : Pst K N BoR W (m ρ) σ H R ρ Q' := by
  unfold doS at h
  cases e : m ρ with
  | ok x ρ' =>
    rw [e] at h
    intro v H' R' s r ev
    cases (show v = x from ev)
    exact hk _ ρ' H' R' s r h
  | ex e' ρ' =>
    rw [e] at h
    exact fun c d H' R' s r x => h c d σ H' R' s r Prot.refl x
  | no =>
    rw [e] at h
    exact h.elim

theorem PsS.doE' {m : M EV} {k : EV → MS} {Q' : V → Hp → Prop} (s0 : Stp H0 R0 ρ0 σ H R ρ σ) (h : PsS K N W P (doS m k ρ) σ H0 R0 ρ0 D)
    (hk : ∀ x ρ' v H' R', Stp H0 R0 ρ0 σ H' R' ρ' σ → Stp H R ρ σ H' R' ρ' σ → SR K N H' R' ρ' σ → EvR K N H H' R' ρ' σ x v → PsS K N W P (k x ρ') σ H0 R0 ρ0 D → Q' v H') : Pst K N (EvR K N) W (m ρ) σ H R ρ Q' := by
  unfold doS at h
  cases e : m ρ with
  | ok x ρ' =>
    rw [e] at h
    exact fun v H' R' s r ev => hk x ρ' v H' R' (s0.trans s) s r ev h
  | ex e' ρ' =>
    rw [e] at h
    exact fun c d H' R' s r x => h c d σ H' R' (s0.trans s) r Prot.refl x
  | no =>
    rw [e] at h
    exact h.elim
/-- .. asked from a base further back -/
theorem PsS.doT' {m : M Bool} {k : Bool → MS} {Q' : Bool → Hp → Prop} (s0 : Stp H0 R0 ρ0 σ0 H R ρ σ) (p0 : Prot P σ0 σ) (h : PsS K N W P (doS m k ρ) σ0 H0 R0 ρ0 D)
    (hk : ∀ x ρ' H' R', Stp H0 R0 ρ0 σ0 H' R' ρ' σ → SR K N H' R' ρ' σ → PsS K N W P (k x ρ') σ0 H0 R0 ρ0 D → Q' x H') : Pst K N BoR W (m ρ) σ H R ρ Q' := by
  unfold doS at h
  cases e : m ρ with
  | ok x ρ' =>
    rw [e] at h
    intro v H' R' s r ev
    cases (show v = x from ev)
    exact hk _ ρ' H' R' (s0.trans s) r h
  | ex e' ρ' =>
    rw [e] at h
    exact fun c d H' R' s r x => h c d σ H' R' (s0.trans s) r p0 x
  | no =>
    rw [e] at h
    exact h.elim
/-! ### slots stored -/
theorem SR.set (r : SR K N H R ρ σ) {i : Nat} {p : PV} {v : V} (h : Rep K N R p v) : SR K N H R (ρ.set i (some (.fz p))) (σ.set i (some v)) := by
  refine ⟨r.sub, by simp [r.len], fun j x e => ?_, fun j k x y a hj hk hx hy ha hb => ?_⟩
  · by_cases hj : j = i
    · subst hj
      have hl : j < ρ.length := by
        have := (List.getElem?_eq_some_iff.mp e).1
        simpa using this
      rw [List.getElem?_set_self hl] at e
      cases e
      exact ⟨v, List.getElem?_set_self (by rw [← r.len]; exact hl), h⟩
    · rw [List.getElem?_set_ne (Ne.symm hj)] at e
      obtain ⟨u, h1, h2⟩ := r.at_ j x e
      exact ⟨u, by rw [List.getElem?_set_ne (Ne.symm hj)]; exact h1, h2⟩
  · have nj : j ≠ i := fun z => by
      subst z
      have hl : j < ρ.length := by
        have := (List.getElem?_eq_some_iff.mp hj).1
        simpa using this
      rw [List.getElem?_set_self hl] at hj; cases hj; cases hx
    have nk : k ≠ i := fun z => by
      subst z
      have hl : k < ρ.length := by
        have := (List.getElem?_eq_some_iff.mp hk).1
        simpa using this
      rw [List.getElem?_set_self hl] at hk; cases hk; cases hy
    rw [List.getElem?_set_ne (Ne.symm nj)] at hj ha
    rw [List.getElem?_set_ne (Ne.symm nk)] at hk hb
    exact r.sep j k x y a hj hk hx hy ha hb
theorem own_set {i : Nat} {p : PV} {v : V} {a : Addr} (w : Own (ρ.set i (some (.fz p))) (σ.set i (some v)) a) : Own ρ σ a := by
  obtain ⟨j, x, h1, h2, h3⟩ := w
  have nj : j ≠ i := fun z => by
    subst z
    have hl : j < ρ.length := by
      have := (List.getElem?_eq_some_iff.mp h1).1
      simpa using this
    rw [List.getElem?_set_self hl] at h1; cases h1; cases h2
  rw [List.getElem?_set_ne (Ne.symm nj)] at h1 h3
  exact ⟨j, x, h1, h2, h3⟩
theorem Stp.set (s : Stp H0 R0 ρ0 σ0 H R ρ σ) {i : Nat} {p : PV} {v : V} : Stp H0 R0 ρ0 σ0 H R (ρ.set i (some (.fz p))) (σ.set i (some v)) := ⟨s.sub, s.keep, s.new, fun a w => s.own a (own_set w), s.live⟩
theorem SR.setO (r : SR K N H R ρ σ) {i : Nat} {s : Sl} {a : Addr} (ho : s.own = true) (h : SlAt K N H R s (.ref a)) (n : ¬ Own ρ σ a) : SR K N H R (ρ.set i (some s)) (σ.set i (some (.ref a))) := by
  refine ⟨r.sub, by simp [r.len], fun j x e => ?_, fun j k x y b hj hk hx hy ha hb => ?_⟩
  · by_cases hj : j = i
    · subst hj
      have hl : j < ρ.length := by
        have := (List.getElem?_eq_some_iff.mp e).1
        simpa using this
      rw [List.getElem?_set_self hl] at e
      cases e
      exact ⟨_, List.getElem?_set_self (by rw [← r.len]; exact hl), h⟩
    · rw [List.getElem?_set_ne (Ne.symm hj)] at e
      obtain ⟨u, h1, h2⟩ := r.at_ j x e
      exact ⟨u, by rw [List.getElem?_set_ne (Ne.symm hj)]; exact h1, h2⟩
  · have at_i : ∀ j x, (ρ.set i (some s))[j]? = some (some x) → (σ.set i (some (V.ref a)))[j]? = some (some (.ref b)) → x.own = true → (j = i ∧ b = a) ∨ (j ≠ i ∧ ρ[j]? = some (some x) ∧ σ[j]? = some (some (.ref b))) := fun j x h1 h2 h3 => by
      by_cases z : j = i
      · subst z
        have hl : j < ρ.length := by
          have := (List.getElem?_eq_some_iff.mp h1).1
          simpa using this
        rw [List.getElem?_set_self (by rw [← r.len]; exact hl)] at h2
        cases h2
        exact .inl ⟨rfl, rfl⟩
      · rw [List.getElem?_set_ne (Ne.symm z)] at h1 h2
        exact .inr ⟨z, h1, h2⟩
    rcases at_i j x hj ha hx with ⟨z1, z2⟩ | ⟨z1, z2, z3⟩
    · rcases at_i k y hk hb hy with ⟨w1, w2⟩ | ⟨w1, w2, w3⟩
      · rw [z1, w1]
      · subst z2
        exact absurd ⟨k, y, w2, hy, w3⟩ n
    · rcases at_i k y hk hb hy with ⟨w1, w2⟩ | ⟨w1, w2, w3⟩
      · subst w2
        exact absurd ⟨j, x, z2, hx, z3⟩ n
      · exact r.sep j k x y b z2 w2 hx hy z3 w3
theorem Stp.setO (B : Stp H0 R0 ρ0 σ0 H R ρ σ) {i : Nat} {s : Sl} {a : Addr} (n : H0 a = none) : Stp H0 R0 ρ0 σ0 H R (ρ.set i (some s)) (σ.set i (some (.ref a))) := ⟨B.sub, B.keep, B.new, fun b w => by
  obtain ⟨j, x, h1, h2, h3⟩ := w
  by_cases z : j = i
  · subst z
    have hl : j < (σ.set j (some (V.ref a))).length := (List.getElem?_eq_some_iff.mp h3).1
    rw [List.getElem?_set_self (by simpa using hl)] at h3
    cases h3
    exact .inr n
  · rw [List.getElem?_set_ne (Ne.symm z)] at h1 h3
    exact B.own b ⟨j, x, h1, h2, h3⟩, B.live⟩
theorem Prot.set {i : Nat} {v : Option V} (h : i ∉ P) : Prot P σ (σ.set i v) := fun j hj => by
  rw [List.getElem?_set_ne]
  rintro rfl
  exact h hj
/-- x = e: frozen, or kept as one's own (o = true) -/
def setS (o : Bool) (i : Nat) (x : EV) : MS := fun ρ => match x, o with
  | .nw s, true => .nx (ρ.set i (some s))
  | x, _ => doS (frz x) (fun p ρ' => .nx (ρ'.set i (some (.fz p)))) ρ
theorem setS_ok {o : Bool} {i : Nat} {x : EV} {v : V} (hp : i ∉ P) (B : Stp H0 R0 ρ0 σ H R ρ σ) (r : SR K N H R ρ σ) (ev : EvR K N H0 H R ρ σ x v) (h : PsS K N W P (setS o i x ρ) σ H0 R0 ρ0 D) : D.nx (σ.set i (some v)) H := by
  have key : PsS K N W P (doS (frz x) (fun p ρ' => .nx (ρ'.set i (some (.fz p)))) ρ) σ H0 R0 ρ0 D → D.nx (σ.set i (some v)) H := fun h => by
    rcases frz_ok B r ev with e | ⟨p, ρ1, R1, e, B2, r1, rp, sb, _⟩
    · simp only [doS, e] at h
      exact h.elim
    · simp only [doS, e] at h
      exact h _ H R1 B2.set (r1.set rp) (Prot.set hp)
  cases x with
  | fz p => cases o <;> exact key h
  | vr j => cases o <;> exact key h
  | nw s =>
    cases o with
    | false => exact key h
    | true =>
      obtain ⟨ho, h1, a, rfl, h4, h5⟩ := ev
      exact h _ H R (B.setO h5) (r.setO ho h1 h4) (Prot.set hp)
/-- a target: what it stores of a value -/
abbrev TgS := PV → Env → Option Env
def tgN (i : Nat) : TgS := fun p ρ => some (ρ.set i (some (.fz p)))
def tgs : List TgS → List PV → Env → Option Env
  | [], [], ρ => some ρ
  | t :: ts, p :: ps, ρ => (t p ρ).bind fun ρ' => tgs ts ps ρ'
  | _, _, _ => none
def tgT (ts : List TgS) : TgS := fun p ρ => match p with
  | .tup ps => tgs ts ps ρ
  | _ => none
def gB (K : PySem.W.Frag) (N : Nm) (P : List Nat) (t : TgS) : TG := fun v σ H Q => ∃ ρ R p, SR K N H R ρ σ ∧ Rep K N R p v ∧ ∃ ρ', t p ρ = some ρ' ∧ ∀ σ', SR K N H R ρ' σ' → Prot P σ σ' → (∀ a, Own ρ' σ' a → Own ρ σ a) → Q σ' H
def gBs (K : PySem.W.Frag) (N : Nm) (P : List Nat) (t : List TgS) : TGs := fun vs σ H Q => ∃ ρ R ps, SR K N H R ρ σ ∧ Reps K N R ps vs ∧ ∃ ρ', tgs t ps ρ = some ρ' ∧ ∀ σ', SR K N H R ρ' σ' → Prot P σ σ' → (∀ a, Own ρ' σ' a → Own ρ σ a) → Q σ' H
theorem tgs_len : ∀ {ts : List TgS} {ps : List PV} {ρ ρ' : Env}, tgs ts ps ρ = some ρ' → ts.length = ps.length
  | [], [], _, _, _ => rfl
  | [], _ :: _, _, _, h => by cases h
  | _ :: _, [], _, _, h => by cases h
  | t :: ts, p :: ps, ρ, ρ', h => by
    unfold tgs at h
    cases e : t p ρ with
    | none => rw [e] at h; cases h
    | some ρ1 =>
      rw [e] at h
      exact congrArg Nat.succ (tgs_len (ts := ts) h)
end

section
variable {X : Cx} {N : Nm} {W : WX} {P : List Nat} {e : Expr} {st : Stmt} {rest body : List Stmt} {pos : Pos} {f : M EV} {g h : MS}
abbrev BG (X : Cx) (N : Nm) (P : List Nat) (tg : Expr) (t : TgS) : Prop := PG X tg (gB X.K N P t)
abbrev BGs (X : Cx) (N : Nm) (P : List Nat) (tg : List Expr) (t : List TgS) : Prop := PGs X tg (gBs X.K N P t)
theorem pg_weak {t t' : TG} {tg : Expr} (h : PG X tg t) (w : ∀ v σ H Q, t' v σ H Q → t v σ H Q) : PG X tg t' := ⟨fun pins s σ H v u Q I r q => h.run pins s σ H v u Q I r (w v σ H Q q)⟩
theorem pgs_weak {t t' : TGs} {tg : List Expr} (h : PGs X tg t) (w : ∀ v σ H Q, t' v σ H Q → t v σ H Q) : PGs X tg t' := ⟨fun pins s σ H v u Q I r q => h.run pins s σ H v u Q I r (w v σ H Q q)⟩
theorem bg_name (i : Nat) {x : Str} (hN : X.N.Nodup) (hp : i ∉ P := by decide) (hi : X.N[i]? = some x := by rfl) (hx : Loc X.env.scope x := by first | exact Or.inl rfl | exact Or.inr rfl) (hf : X.fn x = true ∨ X.env.scope.names.lookup x = some .local := by first | exact .inl rfl | exact .inr rfl | assumption) : BG X N P (.Name x pos) (tgN i) :=
  pg_weak (pg_name hN hi hx hf) fun v σ H Q ⟨ρ, R, p, r, rp, ρ', e, k⟩ => by
    cases e
    exact k _ (r.set rp) (Prot.set hp) fun a w => own_set w
theorem bgs_nil : BGs X N P [] [] := pgs_weak pgs_nil fun v σ H Q ⟨ρ, R, ps, r, rp, ρ', e, k⟩ => by
  have : ps = [] := List.eq_nil_of_length_eq_zero (tgs_len e).symm
  subst this
  cases rp
  cases e
  exact ⟨rfl, k σ r Prot.refl fun _ w => w⟩
theorem bgs_cons {es : List Expr} {t : TgS} {ts : List TgS} (h1 : BG X N P e t) (h2 : BGs X N P es ts) (hs : (assignEach (e :: es) X.env).map (·.2) = assign e X.env :: (assignEach es X.env).map (·.2) := by rfl) : BGs X N P (e :: es) (t :: ts) :=
  pgs_weak (pgs_cons h1 h2 hs) fun vs σ H Q ⟨ρ, R, ps, r, rp, ρ', e, k⟩ => by
    cases rp with
    | nil => cases e
    | @cons p v ps vs rp rps =>
      unfold tgs at e
      cases e1 : t p ρ with
      | none => rw [e1] at e; cases e
      | some ρ1 =>
        rw [e1] at e
        exact ⟨v, vs, rfl, ρ, R, p, r, rp, ρ1, e1, fun σ1 r1 p1 o1 => ⟨ρ1, R, ps, r1, rps, ρ', e, fun σ2 r2 p2 o2 => k σ2 r2 (p1.trans p2) fun a w => o1 a (o2 a w)⟩⟩
theorem bg_tup {es : List Expr} {k : Nat} {ts : List TgS} (hc : X.calm = true) (h : BGs X N P es ts) (hn : (assignEach es X.env).length = ts.length := by rfl) (hst : (assignEach es X.env).findIdx? (·.1) = none := by rfl) : BG X N P (.Tuple es k pos) (tgT ts) :=
  pg_weak (pg_tup hc h hn hst) fun v σ H Q ⟨ρ, R, p, r, rp, ρ', e, k⟩ => by
    cases rp with
    | tup hq rs => exact ⟨_, _, rfl, r.sub.tup hq, rs.length.symm.trans (tgs_len e).symm, ρ, R, _, r, rs, ρ', e, k⟩
    | «at» => cases e
    | lst => cases e
    | scr => cases e
    | ins => cases e
    | exc => cases e
    | excF => cases e
    | dct => cases e

/-! ### statements -/
theorem bss_nil : BSs X N W P [] nxt := pss_weak pss_nil fun D σ H ⟨ρ, R, r, h⟩ => h σ H R .refl r Prot.refl
theorem seq_ok {D : Ends} {σ : St} {H R : Hp} {ρ : Env} {K : PySem.W.Frag} (h' : PsS K N W P (seq g h ρ) σ H R ρ D) : PsS K N W P (g ρ) σ H R ρ { D with nx := tS K N W P h D } := by
  unfold seq at h'
  cases e : g ρ with
  | nx ρ1 =>
    rw [e] at h'
    exact fun σ1 H1 R1 s1 r1 p1 => ⟨ρ1, R1, r1, PsS.later h' s1 p1⟩
  | rt x ρ1 => rw [e] at h'; exact h'
  | bk ρ1 => rw [e] at h'; exact h'
  | ct ρ1 => rw [e] at h'; exact h'
  | ex x ρ1 => rw [e] at h'; exact h'
  | no => rw [e] at h'; exact h'
theorem bss_cons (h1 : BS X N W P st g) (h2 : BSs X N W P rest h) : BSs X N W P (st :: rest) (seq g h) := pss_weak (pss_cons h1 h2) fun D σ H ⟨ρ, R, r, h'⟩ => ⟨ρ, R, r, seq_ok h'⟩
theorem bss_one (h1 : BS X N W P st g) : BSs X N W P [st] g := pss_one h1
theorem bs_pass : BS X N W P (.Pass pos) nxt := ps_weak ps_pass fun D σ H ⟨ρ, R, r, h⟩ => h σ H R .refl r Prot.refl
theorem bs_break : BS X N W P (.Break pos) (fun ρ => .bk ρ) := ps_weak ps_break fun D σ H ⟨ρ, R, r, h⟩ => h σ H R .refl r Prot.refl
theorem bs_cont : BS X N W P (.Continue pos) (fun ρ => .ct ρ) := ps_weak ps_continue fun D σ H ⟨ρ, R, r, h⟩ => h σ H R .refl r Prot.refl
/-- x = e -/
theorem bs_set (o : Bool) (i : Nat) {x : Str} {pos' : Pos} (hN : X.N.Nodup) (he : BE X N W e f) (hp : i ∉ P := by decide) (hi : X.N[i]? = some x := by rfl) (hx : Loc X.env.scope x := by first | exact Or.inl rfl | exact Or.inr rfl) (hs : swapsWith e (some (.Name x pos')) pos.line X.env = pure false := by rfl) (hf : X.fn x = true ∨ X.env.scope.names.lookup x = some .local := by first | exact .inl rfl | exact .inr rfl | assumption) :
    BS X N W P (.Assign [.Name x pos'] e pos) (doS f fun v => setS o i v) :=
  ps_weak (ps_set hN hi hx he hs hf) fun D σ H ⟨ρ, R, r, h⟩ => ⟨ρ, R, r, PsS.doE (fun _ _ _ z => z) h fun v ρ1 u H1 R1 s1 r1 e1 h1 => setS_ok hp s1 r1 e1 h1⟩
/-- a, b, .. = e -/
def unpS (t : TgS) (x : EV) : MS := doS (frz x) fun p ρ => match t p ρ with
  | some ρ' => .nx ρ'
  | none => .no
theorem bs_unp {tg : Expr} {t : TgS} (he : BE X N W e f) (hg : BG X N P tg t) (hs : swapsWithSole [tg] e pos.line X.env = pure false := by rfl) (hw : swappedStores [tg] e X.env = pure none := by rfl) (h1 : (assignEach [tg] X.env).map (·.2) = [assign tg X.env] := by rfl) :
    BS X N W P (.Assign [tg] e pos) (doS f fun v => unpS t v) :=
  ps_weak (ps_asg he hg hs hw h1) fun D σ H ⟨ρ, R, r, h⟩ => ⟨ρ, R, r, PsS.doE (fun _ _ _ z => z) h fun v ρ1 u H1 R1 s1 r1 e1 h1 => by
    unfold unpS at h1
    rcases frz_ok s1 r1 e1 with e | ⟨p, ρ2, R2, e, s2, r2, rp, sb, _⟩
    · simp only [doS, e] at h1
      exact h1.elim
    · simp only [doS, e] at h1
      cases e3 : t p ρ2 with
      | none => rw [e3] at h1; exact h1.elim
      | some ρ3 =>
        rw [e3] at h1
        exact ⟨ρ2, R2, p, r2, rp, ρ3, e3, fun σ3 r3 p3 o3 => h1 σ3 H1 R2 ⟨s2.sub, s2.keep, s2.new, fun a w => s2.own a (o3 a w), s2.live⟩ r3 p3⟩⟩
/-- e; return e; return -/
theorem bs_expr (he : BE X N W e f) (hs : swapsWith e none pos.line X.env = pure false := by rfl) : BS X N W P (.Expr e pos) (doS f fun _ => nxt) :=
  ps_weak (ps_expr he hs) fun D σ H ⟨ρ, R, r, h⟩ => ⟨ρ, R, r, PsS.doE (fun _ _ _ z => z) h fun v ρ1 u H1 R1 s1 r1 e1 h1 => h1 σ H1 R1 s1 r1 Prot.refl⟩
theorem bs_ret (he : BE X N W e f) : BS X N W P (.Return (some e) pos) (doS f fun v ρ => .rt v ρ) :=
  ps_weak (ps_ret he) fun D σ H ⟨ρ, R, r, h⟩ => ⟨ρ, R, r, PsS.doE (fun _ _ _ z => z) h fun v ρ1 u H1 R1 s1 r1 e1 h1 => h1 u σ H1 R1 s1 r1 Prot.refl e1⟩
theorem bs_retN : BS X N W P (.Return none pos) (fun ρ => .rt (.fz .non) ρ) :=
  ps_weak ps_retN fun D σ H ⟨ρ, R, r, h⟩ => h .non σ H R .refl r Prot.refl (.at _)
def ifS (t : M Bool) (g h : MS) : MS := doS t fun b => if b then g else h
theorem bs_if {c : Expr} {a b : List Stmt} {t : M Bool} (hc : BT X N W c t) (ha : BSs X N W P a g) (hb : BSs X N W P b h) : BS X N W P (.If c a b pos) (ifS t g h) :=
  ps_weak (ps_if hc ha hb) fun D σ H ⟨ρ, R, r, h'⟩ => ⟨ρ, R, r, PsS.doT h' fun x ρ1 H1 R1 s1 r1 h1 => by
    cases x with
    | true => exact ⟨ρ1, R1, r1, h1.later s1 Prot.refl⟩
    | false => exact ⟨ρ1, R1, r1, h1.later s1 Prot.refl⟩⟩

/-! ### for -/
def forS (t : TgS) (body : MS) : List PV → MS
  | [] => nxt
  | p :: ps => fun ρ => match t p ρ with
    | none => .no
    | some ρ1 => match body ρ1 with
      | .nx ρ2 => forS t body ps ρ2
      | .ct ρ2 => forS t body ps ρ2
      | .bk ρ2 => .nx ρ2
      | r => r
/-- the items of what is walked -/
def itemsL (p : PV) : Option (List PV) := match p with
  | .lst xs => some xs
  | .scr ns => some (ns.map .int)
  | _ => none
def itemsT (p : PV) : Option (List PV) := match p with
  | .tup xs => some xs
  | _ => none
/-- one turn: the invariant i -> i + 1 -/
theorem for_turn {K : PySem.W.Frag} {t : TgS} {body : MS} {D : Ends} {σ0 σ : St} {H0 R0 H R : Hp} {ρ0 ρ : Env} {p : PV} {ps : List PV} {v : V} (s : Stp H0 R0 ρ0 σ0 H R ρ σ) (r : SR K N H R ρ σ) (pr : Prot P σ0 σ) (rp : Rep K N R p v)
    (h : PsS K N W P (forS t body (p :: ps) ρ) σ0 H0 R0 ρ0 D) (Nx : St → Hp → Prop)
    (k : ∀ σ' H' R' ρ', Stp H0 R0 ρ0 σ0 H' R' ρ' σ' → SR K N H' R' ρ' σ' → Prot P σ0 σ' → Sub R R' → (∀ a o, R a = some o → H' a = some o) → PsS K N W P (forS t body ps ρ') σ0 H0 R0 ρ0 D → Nx σ' H') :
    gB K N P t v σ H fun σ2 H2 => tS K N W P body { D with nx := Nx, ct := Nx, bk := D.nx } σ2 H2 := by
  unfold forS at h
  cases e : t p ρ with
  | none => rw [e] at h; exact h.elim
  | some ρ1 =>
    rw [e] at h
    refine ⟨ρ, R, p, r, rp, ρ1, e, fun σ1 r1 p1 o1 => ⟨ρ1, R, r1, ?_⟩⟩
    have s1 : Stp H0 R0 ρ0 σ0 H R ρ1 σ1 := ⟨s.sub, s.keep, s.new, fun a w => s.own a (o1 a w), s.live⟩
    have pr1 := pr.trans p1
    dsimp only at h
    cases e2 : body ρ1 with
    | nx ρ2 =>
      rw [e2] at h
      exact fun σ2 H2 R2 s2 r2 p2 => k σ2 H2 R2 ρ2 (s1.trans s2) r2 (pr1.trans p2) s2.sub (fun a o q => r2.sub a o (s2.sub a o q)) h
    | ct ρ2 =>
      rw [e2] at h
      exact fun σ2 H2 R2 s2 r2 p2 => k σ2 H2 R2 ρ2 (s1.trans s2) r2 (pr1.trans p2) s2.sub (fun a o q => r2.sub a o (s2.sub a o q)) h
    | bk ρ2 =>
      rw [e2] at h
      exact fun σ2 H2 R2 s2 r2 p2 => h σ2 H2 R2 (s1.trans s2) r2 (pr1.trans p2)
    | rt x ρ2 =>
      rw [e2] at h
      exact fun v σ2 H2 R2 s2 r2 p2 ev => h v σ2 H2 R2 (s1.trans s2) r2 (pr1.trans p2) (ev.early s1.live)
    | ex x ρ2 =>
      rw [e2] at h
      exact fun c d σ2 H2 R2 s2 r2 p2 x => h c d σ2 H2 R2 (s1.trans s2) r2 (pr1.trans p2) x
    | no => rw [e2] at h; exact h.elim
theorem for_end {K : PySem.W.Frag} {t : TgS} {body : MS} {D : Ends} {σ0 σ : St} {H0 R0 H R : Hp} {ρ0 ρ : Env} (s : Stp H0 R0 ρ0 σ0 H R ρ σ) (r : SR K N H R ρ σ) (pr : Prot P σ0 σ) (h : PsS K N W P (forS t body [] ρ) σ0 H0 R0 ρ0 D) : D.nx σ H := h σ H R s r pr
def forM_ (it : PV → Option (List PV)) (t : TgS) (body : MS) (x : EV) : MS := doS (frz x) fun p ρ => match it p with
  | some xs => forS t body xs ρ
  | none => .no
theorem drop_get {α : Type} {xs : List α} {i : Nat} {x : α} (h : xs[i]? = some x) : xs.drop i = x :: xs.drop (i + 1) := by
  obtain ⟨h1, h2⟩ := List.getElem?_eq_some_iff.mp h
  rw [List.drop_eq_getElem_cons h1, h2]
/-- for .. in a list -/
theorem bs_forL {tg iter : Expr} {t : TgS} (hp : PassesOwn (model X.prog X.w) X.A X.env X.xe) (hc : X.calm = true) (hi : BE X N W iter f) (hg : BG X N P tg t) (hb : BSs X N W P body g) (hs : ∀ x, foldedSetIterable iter X.env x = pure x := by intro _; rfl) :
    BS X N W P (.For tg iter body [] pos) (doS f fun x => forM_ itemsL t g x) :=
  ps_weak (ps_for hp hc (pi_list hi) hg hb hs) fun D σ H ⟨ρ, R, r, h⟩ => ⟨ρ, R, r, PsS.doE (fun _ _ _ z => z) h fun v ρ1 u H1 R1 s1 r1 e1 h1 => by
    unfold forM_ at h1
    rcases frz_ok s1 r1 e1 with e | ⟨p, ρ2, R2, e, s2, r2, rp, sb, _⟩
    · simp only [doS, e] at h1
      exact h1.elim
    · simp only [doS, e] at h1
      cases e3 : itemsL p with
      | none => rw [e3] at h1; exact h1.elim
      | some ps =>
        rw [e3] at h1
        -- the list, its items
        obtain ⟨a, vs, rfl, hl, rps⟩ : ∃ a vs, u = V.ref a ∧ (∀ H', (∀ b o, R2 b = some o → H' b = some o) → SqL X.K H' a vs) ∧ Reps X.K N R2 ps vs := by
          cases rp with
          | lst q w => cases e3; exact ⟨_, _, rfl, fun H' k => .inl (.inl (k _ _ q)), w⟩
          | scr q => cases e3; exact ⟨_, _, rfl, fun H' k => Sub.seq k q, Reps.ints _⟩
          | «at» => cases e3
          | tup => cases e3
          | ins => cases e3
          | exc => cases e3
          | excF => cases e3
          | dct => cases e3
        refine ⟨a, rfl, ⟨vs, hl H1 r2.sub⟩, ?_⟩
        refine for_list (xs := vs) (fun i σ' H' => ∃ R' ρ', Stp H R ρ σ H' R' ρ' σ' ∧ SR X.K N H' R' ρ' σ' ∧ Prot P σ σ' ∧ Sub R2 R' ∧ PsS X.K N W P (forS t g (ps.drop i) ρ') σ H R ρ D) ⟨R2, ρ2, s2, r2, Prot.refl, Sub.refl _, h1⟩ (fun i σ' H' _ ⟨R', ρ', _, r', _, sb', _⟩ => hl H' (fun b o q => r'.sub b o (sb' b o q))) (fun i x σ' H' hx ⟨R', ρ', s', r', p', sb', h'⟩ => ?_) (fun σ' H' ⟨R', ρ', s', r', p', sb', h'⟩ => ?_)
        · obtain ⟨q, hq, rq⟩ := rps.getV hx
          rw [drop_get hq] at h'
          exact for_turn s' r' p' (Rep.mono sb' rq) h' _ fun σ3 H3 R3 ρ3 s3 r3 p3 sb3 _ h3 => ⟨R3, ρ3, s3, r3, p3, sb'.trans sb3, h3⟩
        · rw [← rps.length, List.drop_length] at h'
          exact for_end s' r' p' h'⟩
/-- for .. in a tuple -/
theorem bs_forT {tg iter : Expr} {t : TgS} (hp : PassesOwn (model X.prog X.w) X.A X.env X.xe) (hc : X.calm = true) (hi : BE X N W iter f) (hg : BG X N P tg t) (hb : BSs X N W P body g) (hs : ∀ x, foldedSetIterable iter X.env x = pure x := by intro _; rfl) :
    BS X N W P (.For tg iter body [] pos) (doS f fun x => forM_ itemsT t g x) :=
  ps_weak (ps_for hp hc (pi_tup hi) hg hb hs) fun D σ H ⟨ρ, R, r, h⟩ => ⟨ρ, R, r, PsS.doE (fun _ _ _ z => z) h fun v ρ1 u H1 R1 s1 r1 e1 h1 => by
    unfold forM_ at h1
    rcases frz_ok s1 r1 e1 with e | ⟨p, ρ2, R2, e, s2, r2, rp, sb, _⟩
    · simp only [doS, e] at h1
      exact h1.elim
    · simp only [doS, e] at h1
      cases e3 : itemsT p with
      | none => rw [e3] at h1; exact h1.elim
      | some ps =>
        rw [e3] at h1
        obtain ⟨a, vs, rfl, hl, rps⟩ : ∃ a vs, u = V.ref a ∧ (∀ H', (∀ b o, R2 b = some o → H' b = some o) → SqT X.K H' a vs) ∧ Reps X.K N R2 ps vs := by
          cases rp with
          | tup q w => cases e3; exact ⟨_, _, rfl, fun H' k => Sub.tup k q, w⟩
          | lst => cases e3
          | scr => cases e3
          | «at» => cases e3
          | ins => cases e3
          | exc => cases e3
          | excF => cases e3
          | dct => cases e3
        refine ⟨a, rfl, ⟨vs, hl H1 r2.sub⟩, ?_⟩
        refine for_tup (xs := vs) (fun i σ' H' => ∃ R' ρ', Stp H R ρ σ H' R' ρ' σ' ∧ SR X.K N H' R' ρ' σ' ∧ Prot P σ σ' ∧ Sub R2 R' ∧ PsS X.K N W P (forS t g (ps.drop i) ρ') σ H R ρ D) ⟨R2, ρ2, s2, r2, Prot.refl, Sub.refl _, h1⟩ (fun i σ' H' _ ⟨R', ρ', _, r', _, sb', _⟩ => hl H' (fun b o q => r'.sub b o (sb' b o q))) (fun i x σ' H' hx ⟨R', ρ', s', r', p', sb', h'⟩ => ?_) (fun σ' H' ⟨R', ρ', s', r', p', sb', h'⟩ => ?_)
        · obtain ⟨q, hq, rq⟩ := rps.getV hx
          rw [drop_get hq] at h'
          exact for_turn s' r' p' (Rep.mono sb' rq) h' _ fun σ3 H3 R3 ρ3 s3 r3 p3 sb3 _ h3 => ⟨R3, ρ3, s3, r3, p3, sb'.trans sb3, h3⟩
        · rw [← rps.length, List.drop_length] at h'
          exact for_end s' r' p' h'⟩
/-- lo, lo + 1, .. below hi -/
def rngL (lo hi : Int) : List PV := (List.range (hi - lo).toNat).map fun (i : Nat) => PV.int (lo + (i : Int))
def smallI (i : Int) : Bool := decide (-(2 ^ 62) ≤ i) && decide (i < 2 ^ 62)
def forR1_ (t : TgS) (body : MS) : List EV → MS
  | [.fz (.at (.int j))] => fun ρ => if smallI j then forS t body (rngL 0 j) ρ else .no
  | _ => fun _ => .no
def forR2_ (t : TgS) (body : MS) : List EV → MS
  | [.fz (.at (.int i)), .fz (.at (.int j))] => fun ρ => if smallI i && smallI j then forS t body (rngL i j) ρ else .no
  | _ => fun _ => .no
theorem PsS.doA {K : PySem.W.Frag} {σ : St} {H R : Hp} {ρ : Env} {D : Ends} {m : M (List EV)} {k : List EV → MS} {Q' : List V → Hp → Prop} (h : PsS K N W P (doS m k ρ) σ H R ρ D)
    (hk : ∀ x ρ' v H' R', Stp H R ρ σ H' R' ρ' σ → SR K N H' R' ρ' σ → EvsR K N H H' R' ρ' σ x v → PsS K N W P (k x ρ') σ H R ρ D → Q' v H') : Pst K N (EvsR K N) W (m ρ) σ H R ρ Q' := by
  unfold doS at h
  cases e : m ρ with
  | ok x ρ' =>
    rw [e] at h
    exact fun v H' R' s r ev => hk x ρ' v H' R' s r ev h
  | ex e' ρ' =>
    rw [e] at h
    exact fun c d H' R' s r x => h c d σ H' R' s r Prot.refl x
  | no =>
    rw [e] at h
    exact h.elim
theorem evs1 {K : PySem.W.Frag} {H H' R' : Hp} {ρ' : Env} {σ : St} {x : EV} {vs : List V} (h : EvsR K N H H' R' ρ' σ [x] vs) : ∃ v, vs = [v] ∧ EvR K N H H' R' ρ' σ x v := by
  match vs, h with
  | [v], h => exact ⟨v, rfl, h.2.1 0 x v rfl rfl⟩
  | [], h => have := h.1; simp at this
  | _ :: _ :: _, h => have := h.1; simp at this
theorem evs2 {K : PySem.W.Frag} {H H' R' : Hp} {ρ' : Env} {σ : St} {x y : EV} {vs : List V} (h : EvsR K N H H' R' ρ' σ [x, y] vs) : ∃ v u, vs = [v, u] ∧ EvR K N H H' R' ρ' σ x v ∧ EvR K N H H' R' ρ' σ y u := by
  match vs, h with
  | [v, u], h => exact ⟨v, u, rfl, h.2.1 0 x v rfl rfl, h.2.1 1 y u rfl rfl⟩
  | [], h => have := h.1; simp at this
  | [_], h => have := h.1; simp at this
  | _ :: _ :: _ :: _, h => have := h.1; simp at this
theorem rng_get {lo hi : Int} {i : Nat} (h : i < (hi - lo).toNat) : (rngL lo hi)[i]? = some (PV.int (lo + (i : Int))) := by
  unfold rngL
  rw [List.getElem?_map, List.getElem?_range h]
  rfl
theorem for_rngG {K : PySem.W.Frag} {t : TgS} {D : Ends} {σ : St} {H R H1 R1 : Hp} {ρ ρ1 : Env} {lo hi : Int} (s1 : Stp H R ρ σ H1 R1 ρ1 σ) (r1 : SR K N H1 R1 ρ1 σ) (h1 : PsS K N W P (forS t g (rngL lo hi) ρ1) σ H R ρ D) (n : Nat) (hn : n = (hi - lo).toNat) :
    ∃ Wd : Nat → Nat → St → Hp → Prop, (∃ m, Wd 0 m σ H1) ∧ ∀ i m σ H, Wd i m σ H →
      ((Itr lo n).stop i H ∧ D.nx σ H) ∨ ((Itr lo n).go i H ∧ ∃ Nx : St → Hp → Prop, (∀ σ' H', Nx σ' H' → ∃ m', m' < m ∧ Wd (i + 1) m' σ' H') ∧ ∀ x H', (Itr lo n).yld i H x H' → gB K N P t x σ H' fun σ2 H2 => tS K N W P g { D with nx := Nx, ct := Nx, bk := D.nx } σ2 H2) := by
  refine for_range (lo := lo) (n := n) (fun i σ' H' => ∃ R' ρ', Stp H R ρ σ H' R' ρ' σ' ∧ SR K N H' R' ρ' σ' ∧ Prot P σ σ' ∧ PsS K N W P (forS t g ((rngL lo hi).drop i) ρ') σ H R ρ D) ⟨R1, ρ1, s1, r1, Prot.refl, h1⟩ (fun i σ' H' hx ⟨R', ρ', s', r', p', h'⟩ => ?_) (fun σ' H' ⟨R', ρ', s', r', p', h'⟩ => ?_)
  · rw [drop_get (rng_get (by rw [← hn]; exact hx))] at h'
    exact for_turn s' r' p' (.at _) h' _ fun σ3 H3 R3 ρ3 s3 r3 p3 sb3 _ h3 => ⟨R3, ρ3, s3, r3, p3, h3⟩
  · have : (rngL lo hi).drop n = [] := by
      rw [List.drop_eq_nil_iff, hn]
      simp [rngL]
    rw [this] at h'
    exact for_end s' r' p' h'
theorem smallI_ok {i : Int} (h : smallI i = true) : -(2 ^ 62) ≤ i ∧ i < 2 ^ 62 := by
  unfold smallI at h
  simpa using h
theorem bs_forR1 {tg a : Expr} {t : TgS} {p pos0 : Pos} {fa : M (List EV)} (hp : PassesOwn (model X.prog X.w) X.A X.env X.xe) (hc : X.calm = true) (hgl : Gl X "range") (hm : X.mg "range" = none) (ha : BA X N W [a] fa) (hg : BG X N P tg t) (hb : BSs X N W P body g)
    (hs0 : starEach [a] X.env = [(false, eval a X.env)] := by rfl) (hs : ∀ x, foldedSetIterable (.Call (.Name "range" p) [a] [] pos0) X.env x = pure x := by intro _; rfl) :
    BS X N W P (.For tg (.Call (.Name "range" p) [a] [] pos0) body [] pos) (doS fa fun xs => forR1_ t g xs) :=
  ps_weak (ps_for hp hc (pi_range1 hgl hm ha hs0) hg hb hs) fun D σ H ⟨ρ, R, r, h⟩ => ⟨ρ, R, r, PsS.doA h fun xs ρ1 vs H1 R1 s1 r1 e1 h1 => by
    unfold forR1_ at h1
    split at h1
    · rename_i j
      obtain ⟨v, rfl, e2⟩ := evs1 e1
      split at h1
      · rename_i hj
        cases (show Rep X.K N R1 (.at (.int j)) v from e2)
        have hj := smallI_ok hj
        exact ⟨j, rfl, hj.1, hj.2, for_rngG s1 r1 h1 _ (by simp)⟩
      · exact h1.elim
    · exact h1.elim⟩
theorem bs_forR2 {tg a b : Expr} {t : TgS} {p pos0 : Pos} {fa : M (List EV)} (hp : PassesOwn (model X.prog X.w) X.A X.env X.xe) (hc : X.calm = true) (hgl : Gl X "range") (hm : X.mg "range" = none) (ha : BA X N W [a, b] fa) (hg : BG X N P tg t) (hb : BSs X N W P body g)
    (hs0 : starEach [a, b] X.env = [(false, eval a X.env), (false, eval b X.env)] := by rfl) (hs2 : starEach [b] X.env = [(false, eval b X.env)] := by rfl) (hs : ∀ x, foldedSetIterable (.Call (.Name "range" p) [a, b] [] pos0) X.env x = pure x := by intro _; rfl) :
    BS X N W P (.For tg (.Call (.Name "range" p) [a, b] [] pos0) body [] pos) (doS fa fun xs => forR2_ t g xs) :=
  ps_weak (ps_for hp hc (pi_range2 hgl hm ha hs0 hs2) hg hb hs) fun D σ H ⟨ρ, R, r, h⟩ => ⟨ρ, R, r, PsS.doA h fun xs ρ1 vs H1 R1 s1 r1 e1 h1 => by
    unfold forR2_ at h1
    split at h1
    · rename_i i j
      obtain ⟨v, u, rfl, e2, e3⟩ := evs2 e1
      split at h1
      · rename_i hj
        cases (show Rep X.K N R1 (.at (.int i)) v from e2)
        cases (show Rep X.K N R1 (.at (.int j)) u from e3)
        rw [Bool.and_eq_true] at hj
        have h3 := smallI_ok hj.1
        have h4 := smallI_ok hj.2
        exact ⟨i, j, rfl, ⟨h3.1, h3.2, h4.1, h4.2⟩, for_rngG s1 r1 h1 _ rfl⟩
      · exact h1.elim
    · exact h1.elim⟩
/-- while, by fuel -/
def whileS (t : M Bool) (body : MS) : Nat → MS
  | 0 => fun _ => .no
  | n + 1 => doS t fun b ρ => if b then (match body ρ with
      | .nx ρ1 => whileS t body n ρ1
      | .ct ρ1 => whileS t body n ρ1
      | .bk ρ1 => .nx ρ1
      | r => r) else .nx ρ
theorem bs_while {c : Expr} {t : M Bool} (n : Nat) (hp : PassesOwn (model X.prog X.w) X.A X.env X.xe) (hc : BT X N W c t) (hb : BSs X N W P body g) : BS X N W P (.While c body [] pos) (whileS t g n) :=
  ps_weak (ps_while hp hc hb) fun D σ H ⟨ρ, R, r, h⟩ => by
    refine ⟨fun m σ' H' => ∃ R' ρ', Stp H R ρ σ H' R' ρ' σ' ∧ SR X.K N H' R' ρ' σ' ∧ Prot P σ σ' ∧ PsS X.K N W P (whileS t g m ρ') σ H R ρ D, ⟨n, R, ρ, .refl, r, Prot.refl, h⟩, ?_⟩
    rintro m σ1 H1 ⟨R1, ρ1, s1, r1, p1, h1⟩
    cases m with
    | zero => exact h1.elim
    | succ m =>
      unfold whileS at h1
      refine ⟨ρ1, R1, r1, PsS.doT' s1 p1 h1 fun b ρ2 H2 R2 s2 r2 h3 => ?_⟩
      cases b with
      | false => exact h3 σ1 H2 R2 s2 r2 p1
      | true =>
        refine ⟨fun σ3 H3 => ∃ R3 ρ3, Stp H R ρ σ H3 R3 ρ3 σ3 ∧ SR X.K N H3 R3 ρ3 σ3 ∧ Prot P σ σ3 ∧ PsS X.K N W P (whileS t g m ρ3) σ H R ρ D, fun σ3 H3 q => ⟨m, Nat.lt_succ_self m, q⟩, ρ2, R2, r2, ?_⟩
        simp only [if_true] at h3
        cases e2 : g ρ2 with
        | nx ρ3 =>
          rw [e2] at h3
          exact fun σ3 H3 R3 s3 r3 p3 => ⟨R3, ρ3, s2.trans s3, r3, p1.trans p3, h3⟩
        | ct ρ3 =>
          rw [e2] at h3
          exact fun σ3 H3 R3 s3 r3 p3 => ⟨R3, ρ3, s2.trans s3, r3, p1.trans p3, h3⟩
        | bk ρ3 =>
          rw [e2] at h3
          exact fun σ3 H3 R3 s3 r3 p3 => h3 σ3 H3 R3 (s2.trans s3) r3 (p1.trans p3)
        | rt x ρ3 =>
          rw [e2] at h3
          exact fun v σ3 H3 R3 s3 r3 p3 ev => h3 v σ3 H3 R3 (s2.trans s3) r3 (p1.trans p3) (ev.early s2.live)
        | ex x ρ3 =>
          rw [e2] at h3
          exact fun c d σ3 H3 R3 s3 r3 p3 x => h3 c d σ3 H3 R3 (s2.trans s3) r3 (p1.trans p3) x
        | no => rw [e2] at h3; exact h3.elim
end
end B

set_option Elab.async false
set_option linter.all false
set_option maxRecDepth 100000
set_option maxHeartbeats 4000000
/-! BG: what a def promises where no repr is under way -/
namespace B
open PySem L2 PyProof.Rows

/-- room, and no repr under way -/
structure RmG (k : Nat) (A : Around) extends Room k A : Prop where
  gd : A.guards = some []
theorem RmG.mono {j k : Nat} {A : Around} (r : RmG k A) (h : j ≤ k) : RmG j A := ⟨r.toRoom.mono h, r.gd⟩
theorem RmG.units65 {k : Nat} {A : Around} (r : RmG k A) : A.units + 65 < cLine := by have := r.un; omega
theorem RmG.deeper {k : Nat} {A : Around} (r : RmG (k + 1) A) (env : PySem.Env) : RmG k (A.deeper env) := ⟨r.toRoom.deeper env, r.gd⟩
theorem RmG.in1 {k : Nat} {A : Around} (r : RmG (k + 1) A) : RmG k A.in1 := ⟨r.toRoom.in1, r.gd⟩
theorem make_guards {A : Around} {C : Addr} {us : List Value} {kw : List (Str × Value)} : (A.under (.builtin "type.__call__" ⟨.ref C :: us, kw⟩)).guards = A.guards := by
  first | rfl | (simp [Around.under, Code.guards, Code.isGuard, pushGuards, guardIds]; cases A.guards <;> rfl)
theorem RmG.make {k : Nat} {A : Around} (r : RmG (k + 1) A) (C : Addr) (us : List Value) (kw : List (Str × Value)) : RmG k (A.under (.builtin "type.__call__" ⟨.ref C :: us, kw⟩)) := ⟨r.toRoom.make C us kw, make_guards.trans r.gd⟩

section
variable (P : Program) (w : World) (K : PySem.W.Frag) (mg : Str → Option Value) (base : Heap) (CX : CXT)
structure FnG (k : Nat) (f : Addr) (fd : FuncData) (ps : List Str) (sp : Sp) : Prop where
  len : ∀ vs H Q E, sp vs H Q E → vs.length = ps.length
  run : ∀ (A : Around) (out : List PySem.Env) (s : Shared) (H : Hp) (args : Args) (us : List Value) (vs : List V) (Q : VK) (E : XK), RmG k A →
    Env0 P w K mg base A out s H → BindsTo s fd args (ps.zip us) → Vals vs us → sp vs H Q E → codeAny (model P w) A (.call (.ref f) args) (CR CX out P w H s Q E) s
end
section
variable {P : Program} {w : World} {K : PySem.W.Frag} {mg : Str → Option Value} {base : Heap} {CX : CXT}
theorem FnG.up {j k : Nat} {f : Addr} {fd : FuncData} {ps : List Str} {sp : Sp} (F : FnG P w K mg base CX j f fd ps sp) (h : j ≤ k) : FnG P w K mg base CX k f fd ps sp :=
  ⟨F.len, fun A o s H args us vs Q E r => F.run A o s H args us vs Q E (r.mono h)⟩

/-- a def by its body -/
theorem fn_ofG {k : Nat} {f : Addr} {name qual : Str} {params : Arguments} {body : List Stmt} {sc : Scope} {dV kV doc pm cdv ct oc : Value} {an od : Option Addr} {osl : Array (Option Value)} {N ps : List Str} {sp : Sp}
    (lk : K.lookup f = some ⟨oc, od, .func (PySem.W.fnOf name qual params body sc dV kV doc pm an cdv ct), osl⟩) (hc : PySem.W.codeIn K cdv qual = true) (S : FnScope N ps sc) (len : ∀ vs H Q E, sp vs H Q E → vs.length = ps.length)
    (hb : ∀ (A : Around) (out : List PySem.Env) (s : Shared) (H : Hp) (vs : List V) (Q : VK) (E : XK), RmG k (A.deeper (envOfC qual sc s.heap.objs.size f cdv)) → sp vs H Q E →
      ∃ t, PSs (cxOf CX P w K mg base N qual sc f cdv A out s H E) body t ∧ t { nx := fun _ H' => Q .non H', rt := Q } (L2.start N vs) H) :
    FnG P w K mg base CX (k + 1) f (PySem.W.fnOf name qual params body sc dV kV doc pm an cdv ct) ps sp := by
  refine ⟨len, fun A out s H args us vs Q E r e0 bd rv hs => ?_⟩
  have KX : K.In s.heap := e0.mod.kin.keeps fun a b c => (e0.bs a b c).1
  have nl : s.heap.NoLimit := e0.mod.nolimit.keeps fun a b c => (e0.bs a b c).1
  refine codeAny_call_function r.depth (KX _ _ lk) rfl S.co S.gen rfl (PySem.W.codeRec_of KX hc) (bd _ _ _ _ (wpAny_newFunctionEnv_cells S.kind (fun y hy => ?_) fun env he s1 x => ?_))
  · obtain ⟨n, v⟩ := y
    exact (S.par n (List.of_mem_zip hy).1).imp id fun q => ⟨q, PySem.W.cellsFrom_some _ _ _ (.inl q)⟩
  · subst he
    obtain ⟨t, ht, hq⟩ := hb A out s H vs Q E (r.deeper _) hs
    refine ⟨nl.keeps x.toInCall.keep, codeAny_func (wpAny_mono (ht.run [] s1 _ H _ (inv_start S r.hd e0 (len _ _ _ _ hs) rv x) hq) (fun fl s' g => ?_) fun _ _ g => g)⟩
    cases fl with
    | brk => exact g.elim fun _ g => g.elim fun _ g => g.2.elim
    | cont => exact g.elim fun _ g => g.elim fun _ g => g.2.elim
    | next =>
      obtain ⟨_, H', J, q⟩ := g
      exact ⟨V.non, H', J.os, J.bare, J.base, J.hok, rfl, q⟩
    | ret u =>
      obtain ⟨v, _, H', J, e, q⟩ := g
      exact ⟨v, H', J.os, J.bare, J.base, J.hok, e, q⟩
theorem okG {x qual : Str} {params : Arguments} {body : List Stmt} {sc : Scope} {dvs : List V} {kws : List (Str × V)} {f : Addr} {fd : FuncData} {N ps : List Str} {k : Nat} {sp : Sp} (F : FunD K x qual params body sc dvs kws f fd) (S : FnScope N ps sc)
    (len : ∀ vs H Q E, sp vs H Q E → vs.length = ps.length)
    (hb : ∀ (cdv : Value) (A : Around) (out : List PySem.Env) (s : Shared) (H : Hp) (vs : List V) (Q : VK) (E : XK), RmG k (A.deeper (envOfC qual sc s.heap.objs.size f cdv)) → sp vs H Q E →
      ∃ t, PSs (cxOf CX P w K mg base N qual sc f cdv A out s H E) body t ∧ t { nx := fun _ H' => Q .non H', rt := Q } (L2.start N vs) H) : FnG P w K mg base CX (k + 1) f fd ps sp := by
  obtain ⟨oc, od, dV, kV, doc, pm, an, cdv, ct, osl, e, lk, hc, _⟩ := F.ex
  subst e
  exact fn_ofG lk hc S len (hb cdv)
end

/-! ### calls -/
section
variable {X : Cx} {CX : CXT} {k : Nat} {f C : Addr} {fd : FuncData} {ps : List Str} {sp : Sp} {E : XK} {pins : List (Addr × Obj)} {σ : L2.St} {H : Hp} {s : Shared} {Q : VK}
/-- the callee's code, anywhere -/
theorem codeG {us : List Value} {vs : List V} (F : FnG X.prog X.w X.K X.mg X.base CX k f fd ps sp) {A : Around} (hr : RmG k A) (e0 : Env0 X.prog X.w X.K X.mg X.base A X.stack s H) (hb : Binds X.K fd ps []) (hx : PassesAt CX X σ E) (I : Inv X pins σ H s) (r : Vals vs us) (h : sp vs H Q E) :
    codeAny (model X.prog X.w) A (.call (.ref f) ⟨us, []⟩) (fun r s' => match r with | .ok (.ret v) => EP X pins σ Q v s' | .ok _ => False | .error e => X.xe e s') s := by
  have hl : us.length = ps.length := r.length.symm.trans (F.len _ _ _ _ h)
  have b := hb s us I.kIn ((congrArg List.length (List.append_nil us)).trans hl)
  rw [List.append_nil] at b
  refine codeAny_mono (F.run A X.stack s H ⟨us, []⟩ us vs Q E hr e0 b r h) fun z s' q => ?_
  match z, q with
  | .error e, q => exact hx pins H s e s' I q
  | .ok (.ret u), q => exact I.after q
theorem callG {us : List Value} {vs : List V} (F : FnG X.prog X.w X.K X.mg X.base CX k f fd ps sp) (hr : RmG k X.A) (hb : Binds X.K fd ps []) (hx : PassesAt CX X σ E) (I : Inv X pins σ H s) (r : Vals vs us) (h : sp vs H Q E) :
    wpAny (model X.prog X.w) X.A (call (.ref f) us) (EP X pins σ Q) X.xe s := by
  refine wpAny_call (codeAny_mono (codeG F hr I.env0 hb hx I r h) fun z s' q => ?_)
  match z, q with
  | .error e, q => exact q
  | .ok (.ret u), q => exact q
end
section
variable {X : Cx} {CX : CXT} {k : Nat} {f C : Addr} {fd : FuncData} {ps : List Str} {sp : Sp} {E : L2.St → XK} {x m : Str} {p pos : Pos} {e o : Expr} {es : List Expr} {ta : TE} {t : TA}
def tCallG (sp : Sp) (E : L2.St → XK) (t : TA) : TE := fun σ H Q => t σ H fun vs H1 => sp vs H1 Q (E σ)
theorem pe_callG (F : FnG X.prog X.w X.K X.mg X.base CX k f fd ps sp) (hr : RmG k X.A) (hg : Gl X x) (hm : X.mg x = some (.ref f)) (hk : PySem.W.keepIn X.K (.ref f) = true) (hb : Binds X.K fd ps []) (hx : ∀ σ, PassesAt CX X σ (E σ)) (ha : PA X (e :: es) t)
    (hdb : (x == ("__debug__" : Str)) = false := by decide) (he : starEach (e :: es) X.env = (false, eval e X.env) :: starEach es X.env := by rfl) (hpl : (backTo pos (starEach es X.env)).any (·.1) = false := by rfl) : PE X (.Call (.Name x p) (e :: es) [] pos) (tCallG sp E t) :=
  ⟨fun pins s σ H Q I h => wpAny_Call_Name_kw (ld_glob I hg hm (PySem.W.callWith_K (h₀ := X.base) I.ok.mod.kin hk (thn (ha.run pos pins s σ H _ I h) fun us s1 ⟨vs, H1, I1, r, q⟩ => ⟨I1.kIn, callG F hr hb (hx σ) I1 r q⟩) he hpl) hdb)⟩
theorem pe_callG0 (F : FnG X.prog X.w X.K X.mg X.base CX k f fd ps sp) (hr : RmG k X.A) (hg : Gl X x) (hm : X.mg x = some (.ref f)) (hk : PySem.W.keepIn X.K (.ref f) = true) (hb : Binds X.K fd ps []) (hx : ∀ σ, PassesAt CX X σ (E σ))
    (hdb : (x == ("__debug__" : Str)) = false := by decide) : PE X (.Call (.Name x p) [] [] pos) (tCallG sp E tNil) :=
  ⟨fun pins s σ H Q I h => wpAny_Call_Name_kw (ld_glob I hg hm (PySem.W.callWith_K0 I.kIn hk (callG (us := []) F hr hb (hx σ) I .nil h)) hdb)⟩
/-- e.f, a property -/
theorem pe_propG {g q : Addr} {E0 : XK} (he : PE X e ta) (c : Cls X.K C) (hp : PropOf X.K C m q g) (F : FnG X.prog X.w X.K X.mg X.base CX k g fd ps sp) (hr : RmG (k + 1) X.A) (hb : Binds X.K fd ps []) (hx : Passes CX X.nox E0)
    (hab : attributeBase e m X.env (eval e X.env) = eval e X.env) : PE X (.Attribute e m pos) (tProp C sp [] E0 ta) := by
  refine ⟨fun pins s σ H Q I h => attr_of hab (thn (he.run pins s σ H _ I h) fun u s1 ⟨x, H1, I1, rx, a, dx, fs, ex, ea, q⟩ => ?_)⟩
  subst ex
  cases rx
  obtain ⟨_, O, _⟩ := ins_get I1.hok ea
  obtain ⟨od, J, _⟩ := O.look
  obtain ⟨rest, rc⟩ := hp.rec_
  have I2 := I1.tok (s1.toks + 1)
  have hc : (PySem.W.clsIn X.K C).isSome = true := by
    obtain ⟨_, z, _⟩ := PySem.W.any_some c.hd
    exact z ▸ rfl
  refine PySem.W.get_bind I1.kIn J (PySem.W.plainGet_of (c.get m)).1 (PySem.W.findObj_data hc hp.at_ hp.get hp.tak) (PySem.W.plainGet_of (c.get m)).2 (wpAny_call (PySem.W.prop_get (s := { s1 with toks := s1.toks + 1 }) I1.kIn rc ?_))
  have hl : [Value.ref a].length = ps.length := (F.len _ _ _ _ q).trans rfl
  have b := hb { s1 with toks := s1.toks + 1 } [Value.ref a] I2.kIn hl
  refine codeAny_mono (F.run X.A.in1 X.stack _ H1 ⟨[.ref a], []⟩ [.ref a] [.ref a] Q E0 hr.in1 I2.env0.in1 b (.cons rfl .nil) q) fun z s' g => ?_
  match z, g with
  | .error er, g => exact (hx pins σ H1 _ er s' (I2.wish _) g).elim
  | .ok (.ret u), g =>
    obtain ⟨v, H', I3, rv, q3⟩ := I2.after g
    show wpAny _ _ (handedOut u) _ _ _
    rw [PySem.W.handedOut_of (handed_of rv)]
    exact wpAny_pure ⟨v, H', I3, rv, q3⟩
end
end B

set_option Elab.async false
set_option linter.all false
set_option maxRecDepth 100000
set_option maxHeartbeats 4000000
/-! B3: arguments, calls, defs by content -/
namespace B
open PySem L2

section
variable {K : PySem.W.Frag} {N : Nm} {W : WX} {P : List Nat} {H R H' R' H0 R0 : Hp} {ρ ρ' ρ0 : Env} {σ σ' : St}
/-- one behind the other, asked from a base further back -/
theorem Pst.bnd' {α β γ δ : Type} {VR : Hp → Hp → Hp → Env → St → α → β → Prop} {VR' : Hp → Hp → Hp → Env → St → γ → δ → Prop} {m : M α} {k : α → M γ} {Q : δ → Hp → Prop} {Q' : β → Hp → Prop} (s0 : Stp H0 R0 ρ0 σ H R ρ σ)
    (h : Pst K N VR' W (B.bnd m k ρ) σ H0 R0 ρ0 Q)
    (hk : ∀ x ρ' v H' R', Stp H0 R0 ρ0 σ H' R' ρ' σ → Stp H R ρ σ H' R' ρ' σ → SR K N H' R' ρ' σ → VR H H' R' ρ' σ x v → Pst K N VR' W (k x ρ') σ H0 R0 ρ0 Q → Q' v H') : Pst K N VR W (m ρ) σ H R ρ Q' := by
  unfold B.bnd at h
  cases e : m ρ with
  | ok x ρ' =>
    rw [e] at h
    exact fun v H' R' s r vr => hk x ρ' v H' R' (s0.trans s) s r vr h
  | ex e' ρ' =>
    rw [e] at h
    exact fun c d H' R' s r x => h c d H' R' (s0.trans s) r x
  | no =>
    rw [e] at h
    exact h.elim
theorem EvsR.nil : EvsR K N H H' R' ρ' σ [] [] := ⟨rfl, fun i x v e _ => by simp at e, fun i j x y a e _ _ _ => by simp at e⟩
theorem EvsR.early {xs : List EV} {vs : List V} (h : EvsR K N H H' R' ρ' σ xs vs) (l : ∀ a, H a = none → H0 a = none) : EvsR K N H0 H' R' ρ' σ xs vs := ⟨h.1, fun i x v e1 e2 => (h.2.1 i x v e1 e2).early l, h.2.2⟩
theorem EvsR.cons {H1 R1 : Hp} {ρ1 : Env} {x : EV} {v : V} {xs : List EV} {vs : List V} (e : EvR K N H0 H1 R1 ρ1 σ x v) (s : Stp H1 R1 ρ1 σ H' R' ρ' σ) (l : ∀ a, H1 a = none → H0 a = none) (h : EvsR K N H1 H' R' ρ' σ xs vs) : EvsR K N H0 H' R' ρ' σ (x :: xs) (v :: vs) := by
  have far : ∀ (j : Nat) s t a, x = .nw s → xs[j]? = some (.nw t) → v = .ref a → vs[j]? = some (.ref a) → False := fun j s t a e1 e2 e3 e4 => by
    subst e1 e3
    obtain ⟨_, h2, b, h3, _, h5⟩ := h.2.1 j _ _ e2 e4
    cases h3
    obtain ⟨ho, g2, c, g3, _, _⟩ := e
    cases g3
    obtain ⟨d, o, g4, g5, _⟩ := g2.there ho
    cases g4
    rw [h5] at g5; cases g5
  refine ⟨congrArg Nat.succ h.1, fun i y u e1 e2 => ?_, fun i j y z a e1 e2 e3 e4 => ?_⟩
  · cases i with
    | zero => simp at e1 e2; subst e1 e2; exact e.mono s
    | succ i => exact (h.2.1 i y u (by simpa using e1) (by simpa using e2)).early l
  · cases i with
    | zero =>
      cases j with
      | zero => rfl
      | succ j => exact (far j y z a (by simpa using e1) (by simpa using e2) (by simpa using e3) (by simpa using e4)).elim
    | succ i =>
      cases j with
      | zero => exact (far i z y a (by simpa using e2) (by simpa using e1) (by simpa using e4) (by simpa using e3)).elim
      | succ j => exact congrArg Nat.succ (h.2.2 i j y z a (by simpa using e1) (by simpa using e2) (by simpa using e3) (by simpa using e4))

/-! ### what a def is worth -/
abbrev Fn := List Sl → Rz EV
def spB (K : PySem.W.Frag) (N : Nm) (n : Nat) (F : Fn) : Sp := fun vs H Q E => vs.length = n ∧ ∃ (as : List Sl) (R : Hp), SR K N H R (as.map some) (vs.map some) ∧
  Pst K N (EvR K N) (fun c d _ H' => E c d H') (F as) (vs.map some) H R (as.map some) Q
/-- the arguments: true is handed in as one's own, all others frozen first -/
def pass1 : List Bool → List EV → M (List EV)
  | [], [] => pur []
  | true :: ms, x :: xs => bnd (pass1 ms xs) fun ys => pur (x :: ys)
  | false :: ms, x :: xs => bnd (frz x) fun p => bnd (pass1 ms xs) fun ys => pur (.fz p :: ys)
  | _, _ => no
theorem pass1_ok : ∀ {ms : List Bool} {xs : List EV} {vs : List V} {R : Hp} {ρ : Env}, Stp H0 R0 ρ0 σ H R ρ σ → SR K N H R ρ σ → EvsR K N H0 H R ρ σ xs vs →
    pass1 ms xs ρ = .no ∨ ∃ ys ρ' R', pass1 ms xs ρ = .ok ys ρ' ∧ Stp H0 R0 ρ0 σ H R' ρ' σ ∧ SR K N H R' ρ' σ ∧ EvsR K N H0 H R' ρ' σ ys vs ∧ ms.length = vs.length ∧ Sub R R' ∧ (∀ (i : Nat) s, ys[i]? = some (.nw s) → xs[i]? = some (.nw s)) ∧
      ∀ y u, EvR K N H0 H R ρ σ y u → (∀ (i : Nat) s t a, xs[i]? = some (.nw s) → y = .nw t → vs[i]? = some (.ref a) → u ≠ .ref a) → EvR K N H0 H R' ρ' σ y u
  | [], [], vs, R, ρ, B, r, ev => by
    have : vs = [] := List.eq_nil_of_length_eq_zero ev.1.symm
    subst this
    exact .inr ⟨[], ρ, R, rfl, B, r, ev, rfl, Sub.refl _, fun i s e => by simp at e, fun _ _ h _ => h⟩
  | [], _ :: _, vs, R, ρ, B, r, ev => .inl rfl
  | true :: _, [], vs, R, ρ, B, r, ev => .inl rfl
  | false :: _, [], vs, R, ρ, B, r, ev => .inl rfl
  | true :: ms, x :: xs, [], R, ρ, B, r, ev => by have := ev.1; simp at this
  | false :: ms, x :: xs, [], R, ρ, B, r, ev => by have := ev.1; simp at this
  | true :: ms, x :: xs, v :: vs, R, ρ, B, r, ev => by
    rcases pass1_ok (ms := ms) B r ev.tail with h | ⟨ys, ρ1, R1, e1, B1, r1, ev1, hl, sb, nw1, oth⟩
    · exact .inl (by simp [pass1, bnd, h])
    · have hx : EvR K N H0 H R1 ρ1 σ x v := oth x v (ev.2.1 0 x v rfl rfl) fun i s t a z1 z2 z3 z4 => by
        have := ev.2.2 (i + 1) 0 s t a (by simpa using z1) (by simp [z2]) (by simpa using z3) (by simp [z4])
        omega
      refine .inr ⟨x :: ys, ρ1, R1, by simp [pass1, bnd, e1, pur], B1, r1, ⟨congrArg Nat.succ ev1.1, fun i y u z1 z2 => ?_, fun i j y z a z1 z2 z3 z4 => ?_⟩, congrArg Nat.succ hl, sb, fun i s z => ?_, fun y u h hd => oth y u h fun i s t a z1 z2 z3 => hd (i + 1) s t a (by simpa using z1) z2 (by simpa using z3)⟩
      · cases i with
        | zero => simp at z1 z2; subst z1 z2; exact hx
        | succ i => exact ev1.2.1 i y u (by simpa using z1) (by simpa using z2)
      · have tr : ∀ (i : Nat) s, (x :: ys)[i]? = some (.nw s) → (x :: xs)[i]? = some (.nw s) := fun i s q => by
          cases i with
          | zero => simpa using q
          | succ i => simpa using nw1 i s (by simpa using q)
        exact ev.2.2 i j y z a (tr i y z1) (tr j z z2) z3 z4
      · cases i with
        | zero => simpa using z
        | succ i => simpa using nw1 i s (by simpa using z)
  | false :: ms, x :: xs, v :: vs, R, ρ, B, r, ev => by
    rcases frz_ok B r (ev.2.1 0 x v rfl rfl) with h | ⟨p, ρ1, R1, e1, B1, r1, rp, sb1, oth1⟩
    · exact .inl (by simp [pass1, bnd, h])
    · have ev1 : EvsR K N H0 H R1 ρ1 σ xs vs := ⟨ev.tail.1, fun i y u e3 e4 => oth1 y u (ev.tail.2.1 i y u e3 e4) fun s t a z1 z2 z3 z4 => by
        have := ev.2.2 0 (i + 1) s t a (by simp [z1]) (by simp [e3, z2]) (by simp [z3]) (by simp [e4, z4])
        omega, ev.tail.2.2⟩
      rcases pass1_ok (ms := ms) B1 r1 ev1 with h | ⟨ys, ρ2, R2, e2, B2, r2, ev2, hl, sb, nw2, oth⟩
      · exact .inl (by simp [pass1, bnd, e1, h])
      · refine .inr ⟨.fz p :: ys, ρ2, R2, by simp [pass1, bnd, e1, e2, pur], B2, r2, ⟨congrArg Nat.succ ev2.1, fun i y u z1 z2 => ?_, fun i j y z a z1 z2 z3 z4 => ?_⟩, congrArg Nat.succ hl, sb1.trans sb, fun i s z => ?_, fun y u h hd => ?_⟩
        · cases i with
          | zero => simp at z1 z2; subst z1 z2; exact Rep.mono sb rp
          | succ i => exact ev2.2.1 i y u (by simpa using z1) (by simpa using z2)
        · cases i with
          | zero => simp at z1
          | succ i =>
            cases j with
            | zero => simp at z2
            | succ j => exact congrArg Nat.succ (ev2.2.2 i j y z a (by simpa using z1) (by simpa using z2) (by simpa using z3) (by simpa using z4))
        · cases i with
          | zero => simp at z
          | succ i => simpa using nw2 i s (by simpa using z)
        · exact oth y u (oth1 y u h fun s t a z1 z2 z3 => hd 0 s t a (by simp [z1]) z2 (by simp [z3])) fun i s t a z1 z2 z3 => hd (i + 1) s t a (by simpa using z1) z2 (by simpa using z3)
/-- what is handed in -/
def slOf (ρ : Env) : EV → Option Sl
  | .fz p => some (.fz p)
  | .nw s => some s
  | .vr j => match ρ[j]? with
    | some (some s) => some s
    | _ => none
def vrIx : EV → Option Nat
  | .vr j => some j
  | _ => none
def slsOf (ρ : Env) : List EV → Option (List Sl)
  | [] => some []
  | x :: xs => (slOf ρ x).bind fun s => (slsOf ρ xs).bind fun ss => some (s :: ss)
theorem slsOf_get : ∀ {ys : List EV} {as : List Sl}, slsOf ρ ys = some as → ys.length = as.length ∧ ∀ (i : Nat) s, as[i]? = some s → ∃ y, ys[i]? = some y ∧ slOf ρ y = some s
  | [], as, h => by cases h; exact ⟨rfl, fun i s e => by simp at e⟩
  | y :: ys, as, h => by
    unfold slsOf at h
    cases e1 : slOf ρ y with
    | none => rw [e1] at h; cases h
    | some s0 =>
      rw [e1] at h
      cases e2 : slsOf ρ ys with
      | none => simp only [Option.bind, e2] at h; cases h
      | some ss =>
        simp only [Option.bind, e2] at h
        cases h
        obtain ⟨h1, h2⟩ := slsOf_get e2
        refine ⟨congrArg Nat.succ h1, fun i s e => ?_⟩
        cases i with
        | zero => simp at e; subst e; exact ⟨y, rfl, e1⟩
        | succ i => simpa using h2 i s (by simpa using e)
/-- the callee's view of the slots that were handed in is written back -/
def back : List EV → Env → Env → Env
  | .vr j :: ys, o :: as, ρ => back ys as (ρ.set j o)
  | .fz _ :: ys, _ :: as, ρ => back ys as ρ
  | .nw _ :: ys, _ :: as, ρ => back ys as ρ
  | _, _, ρ => ρ
theorem back_len : ∀ (ys : List EV) (as ρ : Env), (back ys as ρ).length = ρ.length
  | [], _, _ => rfl
  | .vr j :: ys, [], _ => rfl
  | .fz _ :: ys, [], _ => rfl
  | .nw _ :: ys, [], _ => rfl
  | .vr j :: ys, o :: as, ρ => by show (back ys as (ρ.set j o)).length = _; rw [back_len ys as]; simp
  | .fz _ :: ys, o :: as, ρ => back_len ys as ρ
  | .nw _ :: ys, o :: as, ρ => back_len ys as ρ
theorem back_get : ∀ (ys : List EV) (as ρ : Env) (k : Nat), (∃ (i : Nat) (o : Option Sl), ys[i]? = some (.vr k) ∧ as[i]? = some o ∧ (back ys as ρ)[k]? = (if k < ρ.length then some o else none)) ∨ ((∀ i : Nat, i < as.length → ys[i]? ≠ some (.vr k)) ∧ (back ys as ρ)[k]? = ρ[k]?)
  | [], as, ρ, k => .inr ⟨fun i _ e => by simp at e, rfl⟩
  | .vr j :: ys, [], ρ, k => .inr ⟨fun i h => by simp at h, rfl⟩
  | .fz _ :: ys, [], ρ, k => .inr ⟨fun i h => by simp at h, rfl⟩
  | .nw _ :: ys, [], ρ, k => .inr ⟨fun i h => by simp at h, rfl⟩
  | .fz p :: ys, o :: as, ρ, k => by
    rcases back_get ys as ρ k with ⟨i, o', h1, h2, h3⟩ | ⟨h1, h2⟩
    · exact .inl ⟨i + 1, o', by simpa using h1, by simpa using h2, h3⟩
    · refine .inr ⟨fun i hi e => ?_, h2⟩
      cases i with
      | zero => simp at e
      | succ i => exact h1 i (by simpa using hi) (by simpa using e)
  | .nw p :: ys, o :: as, ρ, k => by
    rcases back_get ys as ρ k with ⟨i, o', h1, h2, h3⟩ | ⟨h1, h2⟩
    · exact .inl ⟨i + 1, o', by simpa using h1, by simpa using h2, h3⟩
    · refine .inr ⟨fun i hi e => ?_, h2⟩
      cases i with
      | zero => simp at e
      | succ i => exact h1 i (by simpa using hi) (by simpa using e)
  | .vr j :: ys, o :: as, ρ, k => by
    rcases back_get ys as (ρ.set j o) k with ⟨i, o', h1, h2, h3⟩ | ⟨h1, h2⟩
    · exact .inl ⟨i + 1, o', by simpa using h1, by simpa using h2, by simpa [back] using h3⟩
    · by_cases hk : k = j
      · subst hk
        refine .inl ⟨0, o, rfl, rfl, ?_⟩
        show (back ys as (ρ.set k o))[k]? = _
        rw [h2]
        by_cases hl : k < ρ.length
        · rw [List.getElem?_set_self hl, if_pos hl]
        · rw [if_neg hl, List.getElem?_eq_none (by simp; omega)]
      · refine .inr ⟨fun i hi e => ?_, ?_⟩
        · cases i with
          | zero => simp at e; exact hk e.symm
          | succ i => exact h1 i (by simpa using hi) (by simpa using e)
        · show (back ys as (ρ.set j o))[k]? = _
          rw [h2, List.getElem?_set_ne (Ne.symm hk)]
/-- handed in, run, written back -/
def callV (ms : List Bool) (F : Fn) (xs : List EV) : M EV := bnd (pass1 ms xs) fun ys ρ => match slsOf ρ ys with
  | none => .no
  | some as => if (ys.filterMap vrIx).Nodup then (match F as with
    | .ok (.fz p) ρa => .ok (.fz p) (back ys ρa ρ)
    | .ok (.nw s) ρa => .ok (.nw s) (back ys ρa ρ)
    | .ok (.vr _) _ => .no
    | .ex e ρa => .ex e (back ys ρa ρ)
    | .no => .no) else .no
theorem vr_inj : ∀ {ys : List EV} {i j k : Nat}, (ys.filterMap vrIx).Nodup → ys[i]? = some (.vr k) → ys[j]? = some (.vr k) → i = j
  | [], i, j, k, _, h, _ => by simp at h
  | y :: ys, 0, 0, k, _, _, _ => rfl
  | y :: ys, 0, j + 1, k, h, h1, h2 => by
    simp at h1; subst h1
    rw [List.filterMap_cons] at h
    simp only [vrIx, List.nodup_cons] at h
    exact absurd (List.mem_filterMap (f := vrIx).mpr ⟨EV.vr k, List.mem_of_getElem? (by simpa using h2), rfl⟩) h.1
  | y :: ys, i + 1, 0, k, h, h1, h2 => by
    simp at h2; subst h2
    rw [List.filterMap_cons] at h
    simp only [vrIx, List.nodup_cons] at h
    exact absurd (List.mem_filterMap (f := vrIx).mpr ⟨EV.vr k, List.mem_of_getElem? (by simpa using h1), rfl⟩) h.1
  | y :: ys, i + 1, j + 1, k, h, h1, h2 => by
    have h' : (ys.filterMap vrIx).Nodup := by
      rw [List.filterMap_cons] at h
      cases e : vrIx y with
      | none => rw [e] at h; exact h
      | some z => rw [e] at h; exact (List.nodup_cons.mp h).2
    exact congrArg Nat.succ (vr_inj h' (by simpa using h1) (by simpa using h2))
/-- what a callee starts from, and what comes back -/
structure Handed (K : PySem.W.Frag) (N : Nm) (H0 R0 : Hp) (ρ0 : Env) (σ : St) (H R : Hp) (ρ : Env) (ys : List EV) (vs : List V) (as : List Sl) : Prop where
  B : Stp H0 R0 ρ0 σ H R ρ σ
  r : SR K N H R ρ σ
  ev : EvsR K N H0 H R ρ σ ys vs
  sl : slsOf ρ ys = some as
  nd : (ys.filterMap vrIx).Nodup
section
variable {ys : List EV} {vs : List V} {as : List Sl}
theorem Handed.get (h : Handed K N H0 R0 ρ0 σ H R ρ ys vs as) {i : Nat} {s : Sl} (e : as[i]? = some s) : ∃ y v, ys[i]? = some y ∧ vs[i]? = some v ∧ SlAt K N H R s v ∧ EvR K N H0 H R ρ σ y v ∧ slOf ρ y = some s := by
  obtain ⟨y, h1, h2⟩ := (slsOf_get h.sl).2 i s e
  have hi : i < vs.length := by rw [← h.ev.1]; exact (List.getElem?_eq_some_iff.mp h1).1
  have hv : vs[i]? = some vs[i] := List.getElem?_eq_getElem hi
  have ev := h.ev.2.1 i y _ h1 hv
  refine ⟨y, _, h1, hv, ?_, ev, h2⟩
  cases y with
  | fz p => cases h2; exact ev
  | nw s' => cases h2; exact ev.2.1
  | vr j =>
    unfold slOf at h2
    dsimp only at h2
    cases e1 : ρ[j]? with
    | none => rw [e1] at h2; cases h2
    | some o =>
      cases o with
      | none => rw [e1] at h2; cases h2
      | some s' =>
        rw [e1] at h2
        cases h2
        obtain ⟨u, g1, g2⟩ := h.r.at_ j s e1
        have g3 : σ[j]? = some (some vs[i]) := ev
        rw [g1] at g3; cases g3
        exact g2
/-- whose own it is -/
theorem Handed.own (h : Handed K N H0 R0 ρ0 σ H R ρ ys vs as) {a : Addr} (w : Own (as.map some) (vs.map some) a) : ∃ i : Nat, (∃ (j : Nat) (s : Sl), ys[i]? = some (EV.vr j) ∧ ρ[j]? = some (some s) ∧ s.own = true ∧ σ[j]? = some (some (V.ref a)) ∧ vs[i]? = some (V.ref a)) ∨ (∃ s : Sl, ys[i]? = some (EV.nw s) ∧ vs[i]? = some (V.ref a) ∧ ¬ Own ρ σ a ∧ H0 a = none ∧ ∃ o, H a = some o) := by
  obtain ⟨i, s, h1, h2, h3⟩ := w
  have e1 : as[i]? = some s := by
    rw [List.getElem?_map] at h1
    cases q : as[i]? with
    | none => rw [q] at h1; cases h1
    | some z => rw [q] at h1; cases h1; rfl
  have e2 : vs[i]? = some (.ref a) := by
    rw [List.getElem?_map] at h3
    cases q : vs[i]? with
    | none => rw [q] at h3; cases h3
    | some z => rw [q] at h3; cases h3; rfl
  obtain ⟨y, v, g1, g2, g3, g4, g5⟩ := h.get e1
  rw [e2] at g2; cases g2
  refine ⟨i, ?_⟩
  cases y with
  | fz p => cases g5; cases h2
  | nw s' =>
    cases g5
    obtain ⟨_, _, b, q1, q2, q3⟩ := g4
    cases q1
    obtain ⟨c, o, q4, q5, _⟩ := g3.there h2
    cases q4
    exact .inr ⟨s, g1, e2, q2, q3, o, q5⟩
  | vr j =>
    unfold slOf at g5
    dsimp only at g5
    cases e3 : ρ[j]? with
    | none => rw [e3] at g5; cases g5
    | some o =>
      cases o with
      | none => rw [e3] at g5; cases g5
      | some s' =>
        rw [e3] at g5
        cases g5
        exact .inl ⟨j, s, g1, e3, h2, g4, e2⟩
theorem Handed.ownB (h : Handed K N H0 R0 ρ0 σ H R ρ ys vs as) {a : Addr} (w : Own (as.map some) (vs.map some) a) : Own ρ0 σ a ∨ H0 a = none := by
  obtain ⟨i, ⟨j, s, h1, h2, h3, h4, _⟩ | ⟨s, h1, _, _, h3, _⟩⟩ := h.own w
  · exact h.B.own a ⟨j, s, h2, h3, h4⟩
  · exact .inr h3
theorem Handed.sr (h : Handed K N H0 R0 ρ0 σ H R ρ ys vs as) : SR K N H R (as.map some) (vs.map some) := by
  have hl := (slsOf_get h.sl).1
  refine ⟨h.r.sub, by simp [← hl, h.ev.1], fun i x e => ?_, fun i j x y a hi hj hx hy ha hb => ?_⟩
  · have e1 : as[i]? = some x := by
      rw [List.getElem?_map] at e
      cases q : as[i]? with
      | none => rw [q] at e; cases e
      | some z => rw [q] at e; cases e; rfl
    obtain ⟨y, v, g1, g2, g3, _⟩ := h.get e1
    exact ⟨v, by rw [List.getElem?_map, g2]; rfl, g3⟩
  · have mk : ∀ (i : Nat) x, (as.map some)[i]? = some (some x) → x.own = true → (vs.map some)[i]? = some (some (.ref a)) → ∃ y : EV, ys[i]? = some y ∧ vs[i]? = some (V.ref a) ∧ ((∃ k : Nat, y = EV.vr k ∧ ∃ s : Sl, ρ[k]? = some (some s) ∧ s.own = true ∧ σ[k]? = some (some (V.ref a))) ∨ (∃ s : Sl, y = EV.nw s ∧ ¬ Own ρ σ a)) := fun i x q1 q2 q3 => by
      have e1 : as[i]? = some x := by
        rw [List.getElem?_map] at q1
        cases q : as[i]? with
        | none => rw [q] at q1; cases q1
        | some z => rw [q] at q1; cases q1; rfl
      obtain ⟨y, v, g1, g2, g3, g4, g5⟩ := h.get e1
      rw [List.getElem?_map, g2] at q3
      cases q3
      refine ⟨y, g1, g2, ?_⟩
      cases y with
      | fz p => cases g5; cases q2
      | nw s' =>
        cases g5
        obtain ⟨_, _, b, q4, q5, _⟩ := g4
        cases q4
        exact .inr ⟨x, rfl, q5⟩
      | vr k =>
        unfold slOf at g5
        dsimp only at g5
        cases e3 : ρ[k]? with
        | none => rw [e3] at g5; cases g5
        | some o =>
          cases o with
          | none => rw [e3] at g5; cases g5
          | some s' =>
            rw [e3] at g5
            cases g5
            exact .inl ⟨k, rfl, x, e3, q2, g4⟩
    obtain ⟨y1, g1, v1, c1⟩ := mk i x hi hx ha
    obtain ⟨y2, g2, v2, c2⟩ := mk j y hj hy hb
    rcases c1 with ⟨k1, rfl, s1, p1, o1, q1⟩ | ⟨s1, rfl, n1⟩
    · rcases c2 with ⟨k2, rfl, s2, p2, o2, q2⟩ | ⟨s2, rfl, n2⟩
      · have := h.r.sep k1 k2 s1 s2 a p1 p2 o1 o2 q1 q2
        subst this
        exact vr_inj h.nd g1 g2
      · exact absurd ⟨k1, s1, p1, o1, q1⟩ n2
    · rcases c2 with ⟨k2, rfl, s2, p2, o2, q2⟩ | ⟨s2, rfl, n2⟩
      · exact absurd ⟨k2, s2, p2, o2, q2⟩ n1
      · exact h.ev.2.2 i j s1 s2 a g1 g2 v1 v2
theorem Handed.back (h : Handed K N H0 R0 ρ0 σ H R ρ ys vs as) {ρa : Env} (s : Stp H R (as.map some) (vs.map some) H' R' ρa (vs.map some)) (r' : SR K N H' R' ρa (vs.map some)) :
    Stp H0 R0 ρ0 σ H' R' (back ys ρa ρ) σ ∧ SR K N H' R' (back ys ρa ρ) σ ∧ (∀ a, Own (back ys ρa ρ) σ a → (∃ (i k : Nat) (x : Sl), ys[i]? = some (.vr k) ∧ ρa[i]? = some (some x) ∧ x.own = true ∧ (vs.map some)[i]? = some (some (.ref a))) ∨ Own ρ σ a) := by
  have hla : ρa.length = ys.length := by rw [r'.len, List.length_map, h.ev.1]
  -- each slot behind
  have slot : ∀ (k : Nat) (x : Sl), (B.back ys ρa ρ)[k]? = some (some x) → (∃ (i : Nat) (v : V), ys[i]? = some (.vr k) ∧ ρa[i]? = some (some x) ∧ vs[i]? = some v ∧ σ[k]? = some (some v)) ∨ ((∀ i : Nat, ys[i]? ≠ some (.vr k)) ∧ ρ[k]? = some (some x)) := fun k x e => by
    rcases back_get ys ρa ρ k with ⟨i, o, h1, h2, h3⟩ | ⟨h1, h2⟩
    · left
      rw [e] at h3
      split at h3
      · cases h3
        have hi : i < vs.length := by rw [← h.ev.1]; exact (List.getElem?_eq_some_iff.mp h1).1
        have hv : vs[i]? = some vs[i] := List.getElem?_eq_getElem hi
        exact ⟨i, vs[i], h1, h2, hv, h.ev.2.1 i _ _ h1 hv⟩
      · cases h3
    · right
      exact ⟨fun i q => h1 i (by rw [hla]; exact (List.getElem?_eq_some_iff.mp q).1) q, by rw [← h2]; exact e⟩
  have vm : ∀ {i : Nat} {v : V}, vs[i]? = some v → (vs.map some)[i]? = some (some v) := fun e => by rw [List.getElem?_map, e]; rfl
  -- a plain slot's own object is not the callee's
  have plain : ∀ (k : Nat) (x : Sl) (a : Addr), (∀ i : Nat, ys[i]? ≠ some (.vr k)) → ρ[k]? = some (some x) → x.own = true → σ[k]? = some (some (.ref a)) → ¬ Own (as.map some) (vs.map some) a := fun k x a n e ho ea w => by
    obtain ⟨i, ⟨j, s, h1, h2, h3, h4, _⟩ | ⟨s, h1, _, h2, _⟩⟩ := h.own w
    · have := h.r.sep j k s x a h2 e h3 ho h4 ea
      subst this
      exact n i h1
    · exact h2 ⟨k, x, e, ho, ea⟩
  refine ⟨⟨h.B.sub.trans s.sub, fun a o q n => ?_, fun a o q => ?_, fun a w => ?_, fun a q => h.B.live a (s.live a q)⟩, ⟨r'.sub, by rw [back_len]; exact h.r.len, fun k x e => ?_, fun k1 k2 x y a e1 e2 o1 o2 a1 a2 => ?_⟩, fun a w => ?_⟩
  · refine s.keep a o (h.B.keep a o q n) fun w => ?_
    rcases h.ownB w with z | z
    · exact n z
    · rw [z] at q; cases q
  · rcases s.new a o q with z | z | z
    · exact h.B.new a o z
    · exact .inr (h.ownB z)
    · exact .inr (.inr (h.B.live a z))
  · obtain ⟨k, x, e1, e2, e3⟩ := w
    rcases slot k x e1 with ⟨i, v, g1, g2, g3, g4⟩ | ⟨g1, g2⟩
    · rw [g4] at e3; cases e3
      rcases s.own a ⟨i, x, g2, e2, vm g3⟩ with z | z
      · exact h.ownB z
      · exact .inr (h.B.live a z)
    · exact h.B.own a ⟨k, x, g2, e2, e3⟩
  · rcases slot k x e with ⟨i, v, g1, g2, g3, g4⟩ | ⟨g1, g2⟩
    · obtain ⟨u, q1, q2⟩ := r'.at_ i x g2
      rw [vm g3] at q1; cases q1
      exact ⟨v, g4, q2⟩
    · obtain ⟨v, q1, q2⟩ := h.r.at_ k x g2
      refine ⟨v, q1, ?_⟩
      cases ho : x.own with
      | false =>
        cases x with
        | fz p => exact Rep.mono s.sub q2
        | ow xs => cases ho
        | oi c fs => cases ho
      | true =>
        obtain ⟨a, o, z1, z2, z3⟩ := q2.there ho
        subst z1
        have n := plain k x a g1 g2 ho q1
        exact q2.keep ho s.sub (fun o q => s.keep a o q n) fun o q z => s.rnone q n z
  · rcases slot k1 x e1 with ⟨i, v, g1, g2, g3, g4⟩ | ⟨g1, g2⟩
    · rw [g4] at a1; cases a1
      rcases slot k2 y e2 with ⟨j, u, f1, f2, f3, f4⟩ | ⟨f1, f2⟩
      · rw [f4] at a2; cases a2
        have := r'.sep i j x y a g2 f2 o1 o2 (vm g3) (vm f3)
        subst this
        rw [g1] at f1; cases f1; rfl
      · rcases s.own a ⟨i, x, g2, o1, vm g3⟩ with z | z
        · exact absurd z (plain k2 y a f1 f2 o2 a2)
        · obtain ⟨o, z1, _⟩ := h.r.own_there ⟨k2, y, f2, o2, a2⟩
          rw [z] at z1; cases z1
    · rcases slot k2 y e2 with ⟨j, u, f1, f2, f3, f4⟩ | ⟨f1, f2⟩
      · rw [f4] at a2; cases a2
        rcases s.own a ⟨j, y, f2, o2, vm f3⟩ with z | z
        · exact absurd z (plain k1 x a g1 g2 o1 a1)
        · obtain ⟨o, z1, _⟩ := h.r.own_there ⟨k1, x, g2, o1, a1⟩
          rw [z] at z1; cases z1
      · exact h.r.sep k1 k2 x y a g2 f2 o1 o2 a1 a2
  · obtain ⟨k, x, e1, e2, e3⟩ := w
    rcases slot k x e1 with ⟨i, v, g1, g2, g3, g4⟩ | ⟨g1, g2⟩
    · rw [g4] at e3; cases e3
      exact .inl ⟨i, k, x, g1, g2, e2, vm g3⟩
    · exact .inr ⟨k, x, g2, e2, e3⟩
end
theorem callV_ok {ms : List Bool} {F : Fn} {xs : List EV} {vs : List V} {Q : V → Hp → Prop} (B : Stp H0 R0 ρ0 σ H R ρ σ) (r : SR K N H R ρ σ) (ev : EvsR K N H0 H R ρ σ xs vs) (h : Pst K N (EvR K N) W (callV ms F xs ρ) σ H0 R0 ρ0 Q) :
    spB K N ms.length F vs H Q (fun c d H' => W c d σ H') := by
  unfold callV at h
  rcases pass1_ok (ms := ms) B r ev with e | ⟨ys, ρ1, R1, e, B1, r1, ev1, hl, _, _, _⟩
  · simp only [bnd, e] at h
    exact h.elim
  · simp only [bnd, e] at h
    cases e1 : slsOf ρ1 ys with
    | none => rw [e1] at h; exact h.elim
    | some as =>
      rw [e1] at h
      dsimp only at h
      by_cases nd : (ys.filterMap vrIx).Nodup
      · rw [if_pos nd] at h
        have hd : Handed K N H0 R0 ρ0 σ H R1 ρ1 ys vs as := ⟨B1, r1, ev1, e1, nd⟩
        refine ⟨hl.symm, as, R1, hd.sr, ?_⟩
        cases e2 : F as with
        | no => rw [e2] at h; exact h.elim
        | ex x ρa =>
          rw [e2] at h
          intro c d H' R' s' r' x'
          obtain ⟨b1, b2, _⟩ := hd.back s' r'
          exact h c d H' R' b1 b2 x'
        | ok x ρa =>
          rw [e2] at h
          intro v H' R' s' r' x'
          obtain ⟨b1, b2, b3⟩ := hd.back s' r'
          cases x with
          | vr j => exact h.elim
          | fz p => exact h v H' R' b1 b2 x'
          | nw s =>
            obtain ⟨ho, q1, a, rfl, q2, q3⟩ := x'
            refine h _ H' R' b1 b2 ⟨ho, q1, a, rfl, fun w => ?_, B1.live a q3⟩
            rcases b3 a w with ⟨i, k, x, z1, z2, z3, z4⟩ | z
            · exact q2 ⟨i, x, z2, z3, z4⟩
            · obtain ⟨o, z, _⟩ := r1.own_there z
              rw [q3] at z; cases z
      · rw [if_neg nd] at h
        exact h.elim
end

section
variable {X : Cx} {N : Nm} {W : WX} {P : List Nat} {e o : Expr} {es : List Expr} {pos : Pos} {f : M EV} {fs : M (List EV)}
theorem ba_nil : BA X N W [] (pur []) := pa_weak pa_nil fun σ H Q ⟨ρ, R, r, h⟩ => h [] H R .refl r .nil
theorem ba_cons (ha : BE X N W e f) (hr : BA X N W es fs) (hs : starEach (e :: es) X.env = (false, eval e X.env) :: starEach es X.env := by rfl) : BA X N W (e :: es) (bnd f fun x => bnd fs fun xs => pur (x :: xs)) :=
  pa_weak (pa_cons ha hr hs) fun σ H Q ⟨ρ, R, r, h⟩ => ⟨ρ, R, r, Pst.bnd' .refl h fun x ρ1 v H1 R1 s1 _ r1 e1 h1 => ⟨ρ1, R1, r1, Pst.bnd' s1 h1 fun xs ρ2 vs H2 R2 s2 s12 r2 e2 h2 =>
    h2 (v :: vs) H2 R2 s2 r2 (EvsR.cons e1 s12 s1.live e2)⟩⟩
variable {k : Nat} {fa : Addr} {fd : FuncData} {ps : List Str} {F : Fn} {x : Str} {p : Pos} {ms : List Bool}
/-- f(e, ..) -/
theorem be_call (tk : Takes X W) (ms : List Bool) (G : FnG X.prog X.w X.K X.mg X.base (L2.CX X.prog X.w) k fa fd ps (spB X.K N ms.length F)) (hr : RmG k X.A) (hg : Gl X x) (hm : X.mg x = some (.ref fa)) (hk : PySem.W.keepIn X.K (.ref fa) = true) (hb : Binds X.K fd ps [])
    (ha : BA X N W (e :: es) fs) (hdb : (x == ("__debug__" : Str)) = false := by decide) (he : starEach (e :: es) X.env = (false, eval e X.env) :: starEach es X.env := by rfl) (hpl : (backTo pos (starEach es X.env)).any (·.1) = false := by rfl) :
    BE X N W (.Call (.Name x p) (e :: es) [] pos) (bnd fs fun xs => callV ms F xs) :=
  pe_weak (pe_callG (E := fun σ => WE W σ) G hr hg hm hk hb (fun σ => passAt tk σ) ha hdb he hpl) fun σ H Q ⟨ρ, R, r, h⟩ => ⟨ρ, R, r, Pst.bnd' .refl h fun xs ρ1 vs H1 R1 s1 _ r1 e1 h1 => callV_ok s1 r1 e1 h1⟩
end
end B

set_option Elab.async false
set_option linter.all false
set_option maxRecDepth 100000
set_option maxHeartbeats 4000000
/-! B4: a def's body and what it is worth -/
namespace B
open PySem L2

section
variable {K : PySem.W.Frag} {N : Nm} {W : WX} {P : List Nat} {H R H' R' H0 R0 : Hp} {ρ ρ' ρ0 : Env} {σ σ' : St}
/-- the slots that were handed in, behind the body -/
def outs (P : List Nat) : Nat → List Sl → Env → Env
  | _, [], _ => []
  | i, s :: as, o :: ρ => (if P.contains i then o else some s) :: outs P (i + 1) as ρ
  | i, s :: as, [] => (if P.contains i then none else some s) :: outs P (i + 1) as []
theorem outs_len (P : List Nat) : ∀ (i : Nat) (as : List Sl) (ρ : Env), (outs P i as ρ).length = as.length
  | _, [], _ => rfl
  | i, s :: as, o :: ρ => congrArg Nat.succ (outs_len P (i + 1) as ρ)
  | i, s :: as, [] => congrArg Nat.succ (outs_len P (i + 1) as [])
theorem outs_get (P : List Nat) : ∀ (i : Nat) (as : List Sl) (ρ : Env) (k : Nat) (x : Sl), (outs P i as ρ)[k]? = some (some x) → (i + k ∈ P ∧ ρ[k]? = some (some x)) ∨ (i + k ∉ P ∧ as[k]? = some x)
  | _, [], _, k, x, h => by simp [outs] at h
  | i, s :: as, o :: ρ, 0, x, h => by
    simp only [outs, List.getElem?_cons_zero, Option.some.injEq] at h
    by_cases hp : P.contains i = true
    · rw [if_pos hp] at h
      exact .inl ⟨by simpa using hp, by simp [h]⟩
    · rw [if_neg hp] at h
      exact .inr ⟨by simpa using hp, by simpa using h⟩
  | i, s :: as, [], 0, x, h => by
    simp only [outs, List.getElem?_cons_zero, Option.some.injEq] at h
    by_cases hp : P.contains i = true
    · rw [if_pos hp] at h; cases h
    · rw [if_neg hp] at h
      exact .inr ⟨by simpa using hp, by simpa using h⟩
  | i, s :: as, o :: ρ, k + 1, x, h => by
    have := outs_get P (i + 1) as ρ k x (by simpa [outs] using h)
    rw [show i + 1 + k = i + (k + 1) by omega] at this
    simpa using this
  | i, s :: as, [], k + 1, x, h => by
    have := outs_get P (i + 1) as [] k x (by simpa [outs] using h)
    rw [show i + 1 + k = i + (k + 1) by omega] at this
    simpa using this
/-- all but those at P stay -/
def plainA (P : List Nat) : Nat → List Sl → Bool
  | _, [] => true
  | i, s :: as => (P.contains i || !s.own) && plainA P (i + 1) as
theorem plainA_get (P : List Nat) : ∀ (i : Nat) (as : List Sl), plainA P i as = true → ∀ (k : Nat) (s : Sl), as[k]? = some s → i + k ∉ P → s.own = false
  | _, [], _, k, s, e, _ => by simp at e
  | i, x :: as, h, 0, s, e, n => by
    simp only [plainA, Bool.and_eq_true, Bool.or_eq_true, Bool.not_eq_true'] at h
    simp at e; subst e
    rcases h.1 with q | q
    · exact absurd (by simpa using q) n
    · exact q
  | i, x :: as, h, k + 1, s, e, n => by
    simp only [plainA, Bool.and_eq_true] at h
    exact plainA_get P (i + 1) as h.2 k s (by simpa using e) (by rw [show i + 1 + k = i + (k + 1) by omega]; exact n)
/-- what was handed in as one's own still is -/
def ownsA (P : List Nat) (as : List Sl) (ρ : Env) : Bool := P.all fun i => match as[i]? with
  | some s => !s.own || (match ρ[i]? with
    | some (some s') => s'.own
    | _ => false)
  | none => true
def fnR (P : List Nat) (as : List Sl) : So → Rz EV
  | .nx ρ => .ok (.fz .non) (outs P 0 as ρ)
  | .rt (.fz p) ρ => .ok (.fz p) (outs P 0 as ρ)
  | .rt (.nw s) ρ => .ok (.nw s) (outs P 0 as ρ)
  | .rt (.vr i) ρ => match ρ[i]? with
    | some (some (.fz p)) => .ok (.fz p) (outs P 0 as ρ)
    | some (some s) => if P.contains i then .no else if ownsA P as ρ then .ok (.nw s) (outs P 0 as ρ) else .no
    | _ => .no
  | .ex e ρ => .ex e (outs P 0 as ρ)
  | _ => .no
/-- a def of n parameters, m names, those at P handed in as one's own -/
def fnB (n m : Nat) (P : List Nat) (g : MS) : Fn := fun as => if as.length = n ∧ plainA P 0 as = true then fnR P as (g (as.map some ++ List.replicate (m - n) none)) else .no

theorem pad_get {as : List Sl} {k i : Nat} {x : Sl} (h : (as.map some ++ List.replicate k none : Env)[i]? = some (some x)) : as[i]? = some x := by
  by_cases hi : i < as.length
  · rw [List.getElem?_append_left (by simpa using hi), List.getElem?_map] at h
    cases q : as[i]? with
    | none => rw [q] at h; cases h
    | some z => rw [q] at h; cases h; rfl
  · rw [List.getElem?_append_right (by simp; omega)] at h
    rw [List.getElem?_replicate] at h
    split at h <;> cases h
theorem padV {vs : List V} {k i : Nat} {v : V} (h : (vs.map some)[i]? = some (some v)) : (vs.map some ++ List.replicate k none : St)[i]? = some (some v) := by
  have hi : i < (vs.map some).length := (List.getElem?_eq_some_iff.mp h).1
  rw [List.getElem?_append_left hi]; exact h
theorem padV' {vs : List V} {k i : Nat} {v : V} (h : (vs.map some ++ List.replicate k none : St)[i]? = some (some v)) : (vs.map some)[i]? = some (some v) := by
  by_cases hi : i < (vs.map some).length
  · rw [List.getElem?_append_left hi] at h; exact h
  · rw [List.getElem?_append_right (by omega), List.getElem?_replicate] at h
    split at h <;> cases h
theorem SR.pad {as : List Sl} {vs : List V} {k : Nat} (r : SR K N H R (as.map some) (vs.map some)) : SR K N H R (as.map some ++ List.replicate k none) (vs.map some ++ List.replicate k none) := by
  have m : ∀ {i : Nat} {x : Sl}, as[i]? = some x → (as.map some)[i]? = some (some x) := fun e => by rw [List.getElem?_map, e]; rfl
  refine ⟨r.sub, by have := r.len; simp at this; simp [this], fun i x e => ?_, fun i j x y a hi hj hx hy ha hb => r.sep i j x y a (m (pad_get hi)) (m (pad_get hj)) hx hy (padV' ha) (padV' hb)⟩
  obtain ⟨v, h1, h2⟩ := r.at_ i x (m (pad_get e))
  exact ⟨v, padV h1, h2⟩
theorem own_pad {as : List Sl} {vs : List V} {k : Nat} {a : Addr} (w : Own (as.map some ++ List.replicate k none) (vs.map some ++ List.replicate k none) a) : Own (as.map some) (vs.map some) a := by
  obtain ⟨i, x, h1, h2, h3⟩ := w
  exact ⟨i, x, by rw [List.getElem?_map, pad_get h1]; rfl, h2, padV' h3⟩
theorem pad_own {as : List Sl} {vs : List V} {k : Nat} {a : Addr} (w : Own (as.map some) (vs.map some) a) : Own (as.map some ++ List.replicate k none) (vs.map some ++ List.replicate k none) a := by
  obtain ⟨i, x, h1, h2, h3⟩ := w
  refine ⟨i, x, ?_, h2, padV h3⟩
  have hi : i < (as.map some).length := (List.getElem?_eq_some_iff.mp h1).1
  rw [List.getElem?_append_left hi]; exact h1
/-- behind the body, seen from outside -/
theorem outs_ok {as : List Sl} {vs : List V} {k : Nat} (r0 : SR K N H R (as.map some) (vs.map some)) (hp : plainA P 0 as = true) (s : Stp H R (as.map some ++ List.replicate k none) (vs.map some ++ List.replicate k none) H' R' ρ' σ') (r : SR K N H' R' ρ' σ') (pr : Prot P (vs.map some ++ List.replicate k none) σ') :
    Stp H R (as.map some) (vs.map some) H' R' (outs P 0 as ρ') (vs.map some) ∧ SR K N H' R' (outs P 0 as ρ') (vs.map some) ∧ ∀ (i : Nat) (x : Sl) (a : Addr), (outs P 0 as ρ')[i]? = some (some x) → x.own = true → (vs.map some)[i]? = some (some (.ref a)) → i ∈ P ∧ ρ'[i]? = some (some x) ∧ σ'[i]? = some (some (.ref a)) := by
  have ow : ∀ (i : Nat) (x : Sl) (a : Addr), (outs P 0 as ρ')[i]? = some (some x) → x.own = true → (vs.map some)[i]? = some (some (.ref a)) → i ∈ P ∧ ρ'[i]? = some (some x) ∧ σ'[i]? = some (some (.ref a)) := fun i x a e ho ea => by
    rcases outs_get P 0 as ρ' i x e with ⟨h1, h2⟩ | ⟨h1, h2⟩
    · rw [Nat.zero_add] at h1
      exact ⟨h1, h2, by rw [pr i h1]; exact padV ea⟩
    · rw [plainA_get P 0 as hp i x h2 h1] at ho; cases ho
  refine ⟨⟨s.sub, fun a o q n => s.keep a o q fun w => n (own_pad w), fun a o q => ?_, fun a w => ?_, s.live⟩, ⟨r.sub, by rw [outs_len]; have := r0.len; simpa using this, fun i x e => ?_, fun i j x y a hi hj hx hy ha hb => ?_⟩, ow⟩
  · rcases s.new a o q with z | z | z
    · exact .inl z
    · exact .inr (.inl (own_pad z))
    · exact .inr (.inr z)
  · obtain ⟨i, x, h1, h2, h3⟩ := w
    obtain ⟨g1, g2, g3⟩ := ow i x a h1 h2 h3
    rcases s.own a ⟨i, x, g2, h2, g3⟩ with z | z
    · exact .inl (own_pad z)
    · exact .inr z
  · rcases outs_get P 0 as ρ' i x e with ⟨h1, h2⟩ | ⟨h1, h2⟩
    · rw [Nat.zero_add] at h1
      obtain ⟨v, g1, g2⟩ := r.at_ i x h2
      rw [pr i h1] at g1
      exact ⟨v, padV' g1, g2⟩
    · obtain ⟨v, g1, g2⟩ := r0.at_ i x (by rw [List.getElem?_map, h2]; rfl)
      refine ⟨v, g1, ?_⟩
      have ho := plainA_get P 0 as hp i x h2 h1
      cases x with
      | fz p => exact Rep.mono s.sub g2
      | ow xs => cases ho
      | oi c fs => cases ho
  · obtain ⟨_, g2, g3⟩ := ow i x a hi hx ha
    obtain ⟨_, f2, f3⟩ := ow j y a hj hy hb
    exact r.sep i j x y a g2 f2 hx hy g3 f3
theorem fnB_ok {n : Nat} {Nn : List Str} {g : MS} {vs : List V} {Q : VK} {E : XK} (h : spB K N n (fnB n Nn.length P g) vs H Q E) :
    tS K N (fun c d _ H' => E c d H') P g { nx := fun _ H' => Q .non H', rt := Q } (L2.start Nn vs) H := by
  obtain ⟨hl, as, R, r, h⟩ := h
  unfold fnB at h
  by_cases hc : as.length = n ∧ plainA P 0 as = true
  · rw [if_pos hc] at h
    obtain ⟨hn, hp⟩ := hc
    have er : L2.start Nn vs = vs.map some ++ List.replicate (Nn.length - n) none := by unfold L2.start; rw [hl]
    rw [er]
    refine ⟨_, R, r.pad, ?_⟩
    cases e : g (as.map some ++ List.replicate (Nn.length - n) none) with
    | no => rw [e] at h; exact h.elim
    | bk ρ' => rw [e] at h; exact h.elim
    | ct ρ' => rw [e] at h; exact h.elim
    | nx ρ' =>
      rw [e] at h
      intro σ' H' R' s' r' p'
      obtain ⟨b1, b2, _⟩ := outs_ok r hp s' r' p'
      exact h .non H' R' b1 b2 (.at _)
    | ex x ρ' =>
      rw [e] at h
      intro c d σ' H' R' s' r' p' x'
      obtain ⟨b1, b2, _⟩ := outs_ok r hp s' r' p'
      exact h c d H' R' b1 b2 x'
    | rt x ρ' =>
      rw [e] at h
      intro v σ' H' R' s' r' p' ev
      obtain ⟨b1, b2, b3⟩ := outs_ok r hp s' r' p'
      cases x with
      | fz p => exact h v H' R' b1 b2 ev
      | nw s =>
        obtain ⟨ho, q1, a, rfl, q2, q3⟩ := ev
        refine h _ H' R' b1 b2 ⟨ho, q1, a, rfl, fun w => ?_, q3⟩
        obtain ⟨i, y, h1, h2, h3⟩ := w
        obtain ⟨_, g2, g3⟩ := b3 i y a h1 h2 h3
        exact q2 ⟨i, y, g2, h2, g3⟩
      | vr i =>
        have ev' : σ'[i]? = some (some v) := ev
        unfold fnR at h
        dsimp only at h
        cases e1 : ρ'[i]? with
        | none => rw [e1] at h; exact h.elim
        | some o =>
          cases o with
          | none => rw [e1] at h; exact h.elim
          | some s =>
            rw [e1] at h
            obtain ⟨u, g1, g2⟩ := r'.at_ i s e1
            rw [ev'] at g1; cases g1
            have go : s.own = true → (∀ h0 : Pst K N (EvR K N) (fun c d _ H' => E c d H') (if P.contains i then .no else if ownsA P as ρ' then .ok (.nw s) (outs P 0 as ρ') else .no) (vs.map some) H R (as.map some) Q, Q v H') := fun ho h0 => by
              by_cases c1 : P.contains i = true
              · rw [if_pos c1] at h0; exact h0.elim
              · rw [if_neg c1] at h0
                by_cases c2 : ownsA P as ρ' = true
                · rw [if_pos c2] at h0
                  obtain ⟨a, o, rfl, z2, z3⟩ := g2.there ho
                  refine h0 _ H' R' b1 b2 ⟨ho, g2, a, rfl, fun w => ?_, ?_⟩
                  · obtain ⟨j, y, h1, h2, h3⟩ := w
                    obtain ⟨m1, m2, m3⟩ := b3 j y a h1 h2 h3
                    have := r'.sep i j s y a e1 m2 ho h2 ev' m3
                    subst this
                    exact c1 (by simpa using m1)
                  · rcases s'.own a ⟨i, s, e1, ho, ev'⟩ with z | z
                    · obtain ⟨j, y, h1, h2, h3⟩ := own_pad z
                      have ha : as[j]? = some y := by
                        rw [List.getElem?_map] at h1
                        cases q : as[j]? with
                        | none => rw [q] at h1; cases h1
                        | some z => rw [q] at h1; cases h1; rfl
                      have mj : j ∈ P := Classical.byContradiction fun n => by
                        rw [plainA_get P 0 as hp j y ha (by rw [Nat.zero_add]; exact n)] at h2; cases h2
                      have c3 := List.all_eq_true.mp c2 j mj
                      rw [ha] at c3
                      simp only [h2, Bool.not_true, Bool.false_or] at c3
                      cases e4 : ρ'[j]? with
                      | none => rw [e4] at c3; cases c3
                      | some o =>
                        cases o with
                        | none => rw [e4] at c3; cases c3
                        | some s2 =>
                          rw [e4] at c3
                          have c4 : s2.own = true := c3
                          have := r'.sep i j s s2 a e1 e4 ho c4 ev' (by rw [p' j mj]; exact padV h3)
                          subst this
                          exact absurd (by simpa using mj) c1
                    · exact z
                · rw [if_neg c2] at h0; exact h0.elim
            cases s with
            | fz p => exact h v H' R' b1 b2 g2
            | ow xs => exact go rfl h
            | oi c fs => exact go rfl h
  · rw [if_neg hc] at h
    exact h.elim
end

section
variable {Pg : Program} {w : World} {K : PySem.W.Frag} {mg : Str → Option Value} {base : Heap} {N : Nm}
/-- a def of the text, as the top has left it -/
abbrev FnP (K : PySem.W.Frag) (x qual : Str) (st : Stmt) (f : Addr) (fd : FuncData) : Prop := FunD K x qual (defArgs st) (defBody st) (defScope st) [] [] f fd
theorem fn_okB {x qual : Str} {st : Stmt} {f : Addr} {fd : FuncData} {Nn ps : List Str} {k n : Nat} {P : List Nat} {g : MS} (F : FnP K x qual st f fd) (S : FnScope Nn ps (defScope st)) (hn : ps.length = n)
    (body : ∀ (cdv : Value) (A : Around) (outer : List PySem.Env) (s : Shared) (H : Hp) (E : XK), RmG k (A.deeper (PyProof.Rows.envOfC qual (defScope st) s.heap.objs.size f cdv)) →
      Takes (cxOf (L2.CX Pg w) Pg w K mg base Nn qual (defScope st) f cdv A outer s H E) (fun c d _ H' => E c d H') → PassesOwn (model Pg w) (A.deeper (PyProof.Rows.envOfC qual (defScope st) s.heap.objs.size f cdv)) (PyProof.Rows.envOfC qual (defScope st) s.heap.objs.size f cdv) (cxOf (L2.CX Pg w) Pg w K mg base Nn qual (defScope st) f cdv A outer s H E).xe →
      BSs (cxOf (L2.CX Pg w) Pg w K mg base Nn qual (defScope st) f cdv A outer s H E) N (fun c d _ H' => E c d H') P (defBody st) g) :
    FnG Pg w K mg base (L2.CX Pg w) (k + 1) f fd ps (spB K N n (fnB n Nn.length P g)) := by
  subst hn
  refine okG F S (fun vs H Q E h => h.1) fun cdv A outer s H vs Q E hr h => ?_
  exact ⟨_, body cdv A outer s H E hr (takes_of rfl rfl rfl rfl) (passes_of rfl), fnB_ok h⟩
end
end B

set_option Elab.async false
set_option linter.all false
set_option maxRecDepth 100000
set_option maxHeartbeats 4000000
/-! B5: tests, comparisons, displays, attributes -/
namespace B
open PySem L2

section
variable {K : PySem.W.Frag} {N : Nm} {W : WX} {H R H' R' H0 R0 : Hp} {ρ ρ' ρ0 : Env} {σ : St}
def toB (x : EV) : M Bool := fun ρ => match x with
  | .fz (.at (.bl b)) => .ok b ρ
  | _ => .no
theorem toB_use {x : EV} {v : V} {γ δ : Type} {VR' : Hp → Hp → Hp → Env → St → γ → δ → Prop} {k : Bool → M γ} {Q' : δ → Hp → Prop} {C : Prop} (h : Pst K N VR' W (bnd (toB x) k ρ) σ H0 R0 ρ0 Q') {Ha : Hp} (ex : EvR K N Ha H R ρ σ x v)
    (hk : ∀ b, v = .bl b → Pst K N VR' W (k b ρ) σ H0 R0 ρ0 Q' → C) : C := by
  unfold toB at h
  cases x with
  | fz p =>
    cases p with
    | «at» u =>
      cases u with
      | bl b =>
        cases (show Rep K N R (.at (.bl b)) v from ex)
        exact hk b rfl h
      | _ => exact h.elim
    | _ => exact h.elim
  | _ => exact h.elim
/-- the end of a test -/
theorem Pst.giveB {Q : Bool → Hp → Prop} {b : Bool} (h : Pst K N BoR W (.ok b ρ) σ H0 R0 ρ0 Q) (B : Stp H0 R0 ρ0 σ H R ρ σ) (r : SR K N H R ρ σ) : Q b H := h b H R B r rfl
theorem bnd_ret {α : Type} (m : M α) : bnd m pur = m := by
  funext ρ
  unfold bnd pur
  cases m ρ <;> rfl
theorem EvR.later {x : EV} {v : V} {Ha H1 R1 : Hp} {ρ1 : Env} (h : EvR K N Ha H R ρ σ x v) (s : Stp H R ρ σ H1 R1 ρ1 σ) : EvR K N Ha H1 R1 ρ1 σ x v := h.mono s
end

section
variable {X : Cx} {N : Nm} {W : WX} {a b c e : Expr} {es rest : List Expr} {pos : Pos} {f g h' : M EV} {t u : M Bool}
/-- a comparison as a test -/
theorem bt_cmp {op : CmpOp} {r : R2} {s : PV → PV → Option EV} (ho : OpR X (compareOp op) r) (hs : OpS X.K N r s) (ha : BE X N W a f) (hb : BE X N W b g) (hm : behindInMarks op b = false) : BT X N W (.Compare a [op] [b] pos) (bnd f fun x => bnd g fun y => bnd (op2 s x y) toB) :=
  pt_weak (pt_cmpR ho ha hb hm) fun σ H Q ⟨ρ, R, r, h⟩ => ⟨ρ, R, r, Pst.bnd' .refl h fun x ρ1 v H1 R1 s1 _ r1 e1 h1 => ⟨ρ1, R1, r1, Pst.bnd' s1 h1 fun y ρ2 u H2 R2 s2 s12 r2 e2 h2 =>
    op2_use hs h2 s2 r2 (e1.mono s12) e2 fun e v' H' R' s3 s23 r3 e3 h3 => by
      have h4 : Pst X.K N BoR W (bnd (toB e) pur ρ2) σ H R ρ Q := by rw [bnd_ret]; exact h3
      exact toB_use h4 e3 fun b eb h5 => ⟨b, eb, Pst.giveB h5 s3 r3⟩⟩⟩
/-- an expression that gives a bool, as a test -/
theorem bt_val (ha : BE X N W e f) (he : ∀ whole, isTrue e X.env whole = (do let v ← whole; standAt e.pos; holding [v] (truthy v)) := by intro _; rfl) : BT X N W e (bnd f toB) :=
  pt_weak (pt_val ha he) fun σ H Q ⟨ρ, R, r, h⟩ => ⟨ρ, R, r, Pst.bnd' .refl h fun x ρ1 v H1 R1 s1 _ r1 e1 h1 => by
    have h4 : Pst X.K N BoR W (bnd (toB x) pur ρ1) σ H R ρ Q := by rw [bnd_ret]; exact h1
    exact toB_use h4 e1 fun b eb h5 => ⟨b, eb, Pst.giveB h5 s1 r1⟩⟩
theorem bt_not (ha : BT X N W a t) : BT X N W (.UnaryOp .Not a pos) (bnd t fun b => pur (!b)) :=
  pt_weak (pt_not ha) fun σ H Q ⟨ρ, R, r, h⟩ => ⟨ρ, R, r, Pst.bnd' .refl h fun x ρ1 v H1 R1 s1 _ r1 e1 h1 => by
    cases (show v = x from e1)
    exact Pst.giveB h1 s1 r1⟩
abbrev BW (X : Cx) (N : Nm) (W : WX) (e : Expr) (f : M Bool) : Prop := PW X e (tT X.K N W f)
theorem pw_weak {e : Expr} {t t' : TT} (h : PW X e t) (w : ∀ σ H Q, t' σ H Q → t σ H Q) : PW X e t' := ⟨fun wh pins s σ H Q I q => h.run wh pins s σ H Q I (w σ H Q q)⟩
theorem bw_and1 (ha : BT X N W a t) : BW X N W (.BoolOp .And [a] pos) t := pw_and1 ha
theorem bw_or1 (ha : BT X N W a t) : BW X N W (.BoolOp .Or [a] pos) t := pw_or1 ha
def andT (t u : M Bool) : M Bool := bnd t fun b => if b then u else pur false
def orT (t u : M Bool) : M Bool := bnd t fun b => if b then pur true else u
theorem bw_and (ha : BT X N W a t) (hb : BW X N W (.BoolOp .And (b :: rest) pos) u) : BW X N W (.BoolOp .And (a :: b :: rest) pos) (andT t u) :=
  pw_weak (pw_and ha hb) fun σ H Q ⟨ρ, R, r, h⟩ => ⟨ρ, R, r, Pst.bnd' .refl h fun x ρ1 v H1 R1 s1 _ r1 e1 h1 => by
    cases (show v = x from e1)
    cases x with
    | true => exact ⟨ρ1, R1, r1, Pst.later h1 s1 fun _ _ _ _ _ _ e => e⟩
    | false => exact Pst.giveB h1 s1 r1⟩
theorem bw_or (ha : BT X N W a t) (hb : BW X N W (.BoolOp .Or (b :: rest) pos) u) : BW X N W (.BoolOp .Or (a :: b :: rest) pos) (orT t u) :=
  pw_weak (pw_or ha hb) fun σ H Q ⟨ρ, R, r, h⟩ => ⟨ρ, R, r, Pst.bnd' .refl h fun x ρ1 v H1 R1 s1 _ r1 e1 h1 => by
    cases (show v = x from e1)
    cases x with
    | false => exact ⟨ρ1, R1, r1, Pst.later h1 s1 fun _ _ _ _ _ _ e => e⟩
    | true => exact Pst.giveB h1 s1 r1⟩
theorem bt_w (h : BW X N W e t) : BT X N W e t := PW.pt h
/-- and, or, not as values (bools) -/
def andV (f g : M EV) : M EV := bnd f fun x => bnd (toB x) fun b => if b then g else pur (.fz (.bl false))
def orV (f g : M EV) : M EV := bnd f fun x => bnd (toB x) fun b => if b then pur (.fz (.bl true)) else g
theorem be_one {op} (h : BE X N W a f) : BE X N W (.BoolOp op [a] pos) f := pe_one h
theorem be_and (ha : BE X N W a f) (hb : BE X N W (.BoolOp .And (b :: rest) pos) g) : BE X N W (.BoolOp .And (a :: b :: rest) pos) (andV f g) :=
  pe_weak (pe_and ha hb) fun σ H Q ⟨ρ, R, r, h⟩ => ⟨ρ, R, r, Pst.bnd' .refl h fun x ρ1 v H1 R1 s1 _ r1 e1 h1 => toB_use h1 e1 fun b eb h2 => ⟨b, eb, by
    cases b with
    | true => exact ⟨ρ1, R1, r1, h2.laterE s1⟩
    | false => exact Pst.give h2 s1 r1 (Gr.refl r1.sub) (.at _)⟩⟩
theorem be_or (ha : BE X N W a f) (hb : BE X N W (.BoolOp .Or (b :: rest) pos) g) : BE X N W (.BoolOp .Or (a :: b :: rest) pos) (orV f g) :=
  pe_weak (pe_or ha hb) fun σ H Q ⟨ρ, R, r, h⟩ => ⟨ρ, R, r, Pst.bnd' .refl h fun x ρ1 v H1 R1 s1 _ r1 e1 h1 => toB_use h1 e1 fun b eb h2 => ⟨b, eb, by
    cases b with
    | false => exact ⟨ρ1, R1, r1, h2.laterE s1⟩
    | true => exact Pst.give h2 s1 r1 (Gr.refl r1.sub) (.at _)⟩⟩
theorem be_not (ha : BE X N W a f) : BE X N W (.UnaryOp .Not a pos) (bnd f fun x => bnd (toB x) fun b => pur (.fz (.bl (!b)))) :=
  pe_weak (pe_not ha) fun σ H Q ⟨ρ, R, r, h⟩ => ⟨ρ, R, r, Pst.bnd' .refl h fun x ρ1 v H1 R1 s1 _ r1 e1 h1 => toB_use h1 e1 fun b eb h2 => ⟨b, eb, Pst.give h2 s1 r1 (Gr.refl r1.sub) (.at _)⟩⟩
theorem be_if (hc : BT X N W c t) (ha : BE X N W a f) (hb : BE X N W b g) : BE X N W (.IfExp c a b pos) (bnd t fun k => if k then f else g) :=
  pe_weak (pe_ifExp hc ha hb) fun σ H Q ⟨ρ, R, r, h⟩ => ⟨ρ, R, r, Pst.bnd' .refl h fun x ρ1 v H1 R1 s1 _ r1 e1 h1 => by
    cases (show v = x from e1)
    cases x with
    | true => exact ⟨ρ1, R1, r1, h1.laterE s1⟩
    | false => exact ⟨ρ1, R1, r1, h1.laterE s1⟩⟩
/-- a < b < c -/
def chainV (s s' : PV → PV → Option EV) (f g h : M EV) : M EV := bnd f fun x => bnd g fun y => bnd (op2 s x y) fun z => bnd (toB z) fun b => if b then bnd h fun w => op2 s' y w else pur (.fz (.bl false))
def chainT (s s' : PV → PV → Option EV) (f g h : M EV) : M Bool := bnd f fun x => bnd g fun y => bnd (op2 s x y) fun z => bnd (toB z) fun b => if b then bnd h fun w => bnd (op2 s' y w) toB else pur false
theorem be_chain {op op' : CmpOp} {r r' : R2} {s s' : PV → PV → Option EV} (ho : OpR X (compareOp op) r) (hs : OpS X.K N r s) (ho' : OpR X (compareOp op') r') (hs' : OpS X.K N r' s') (ha : BE X N W a f) (hb : BE X N W b g) (hc : BE X N W c h')
    (hm : lastMarks [op, op'] [b, c] = false := by with_unfolding_all rfl) : BE X N W (.Compare a [op, op'] [b, c] pos) (chainV s s' f g h') := by
  refine pe_weak (pe_chain ho ho' ha hb hc hm) fun σ H Q ⟨ρ, R, r, h⟩ => ⟨ρ, R, r, Pst.bnd' .refl h fun x ρ1 v H1 R1 s1 _ r1 e1 h1 => ⟨ρ1, R1, r1, Pst.bnd' s1 h1 fun y ρ2 u H2 R2 s2 s12 r2 e2 h2 =>
    op2_use hs h2 s2 r2 (e1.mono s12) e2 fun e v' H' R' s3 s23 r3 e3 h3 => toB_use h3 e3 fun b eb h4 => ⟨b, eb, ?_⟩⟩⟩
  cases b with
  | false =>
    rw [if_neg (by decide)]
    exact Pst.give h4 s3 r3 (Gr.refl r3.sub) (.at _)
  | true =>
    rw [if_pos rfl]
    exact ⟨ρ2, R', r3, Pst.bnd' s3 h4 fun w ρ4 wv H4 R4 s4 s34 r4 e4 h5 => op2_ok hs' h5 s4 r4 ((e2.mono s23).mono s34) e4⟩
theorem bt_chain {op op' : CmpOp} {r r' : R2} {s s' : PV → PV → Option EV} (ho : OpR X (compareOp op) r) (hs : OpS X.K N r s) (ho' : OpR X (compareOp op') r') (hs' : OpS X.K N r' s') (ha : BE X N W a f) (hb : BE X N W b g) (hc : BE X N W c h') (hm : lastMarks [op, op'] [b, c] = false := by with_unfolding_all rfl) : BT X N W (.Compare a [op, op'] [b, c] pos) (chainT s s' f g h') := by
  refine pt_weak (pt_chain ho ho' ha hb hc hm) fun σ H Q ⟨ρ, R, r, h⟩ => ⟨ρ, R, r, Pst.bnd' .refl h fun x ρ1 v H1 R1 s1 _ r1 e1 h1 => ⟨ρ1, R1, r1, Pst.bnd' s1 h1 fun y ρ2 u H2 R2 s2 s12 r2 e2 h2 =>
    op2_use hs h2 s2 r2 (e1.mono s12) e2 fun e v' H' R' s3 s23 r3 e3 h3 => toB_use h3 e3 fun b eb h4 => ⟨b, eb, ?_⟩⟩⟩
  cases b with
  | false =>
    rw [if_neg (by decide)]
    exact ⟨false, rfl, Pst.giveB h4 s3 r3⟩
  | true =>
    rw [if_pos rfl]
    refine ⟨ρ2, R', r3, Pst.bnd' s3 h4 fun w ρ4 wv H4 R4 s4 s34 r4 e4 h5 => op2_use hs' h5 s4 r4 ((e2.mono s23).mono s34) e4 fun e v' H' R' s5 s45 r5 e5 h6 => ?_⟩
    have h7 : Pst X.K N BoR W (bnd (toB e) pur ρ4) σ H R ρ Q := by rw [bnd_ret]; exact h6
    exact toB_use h7 e5 fun b eb h8 => ⟨b, eb, Pst.giveB h8 s5 r5⟩

/-! ### displays, slices -/
variable {fs : M (List EV)}
def tupV (xs : List EV) : M EV := bnd (frzs xs) fun ps ρ => if ps.length ≤ 100000 then .ok (.fz (.tup ps)) ρ else .no
def lstV (xs : List EV) : M EV := bnd (frzs xs) fun ps ρ => if ps.length ≤ 100000 then .ok (.nw (.ow ps)) ρ else .no
theorem sz_of {n : Nat} (h : n ≤ 100000) : n ≤ sizeLine := Nat.le_trans h (by decide)
theorem be_tup {k} (ha : BA X N W es fs) : BE X N W (.Tuple es k pos) (bnd fs tupV) :=
  pe_weak (pe_tup ha) fun σ H Q ⟨ρ, R, r, h⟩ => ⟨ρ, R, r, Pst.bnd' .refl h fun xs ρ1 vs H1 R1 s1 _ r1 e1 h1 => by
    unfold tupV at h1
    rcases frzs_ok s1 r1 e1 with e | ⟨ps, ρ2, R2, e, s2, r2, rp, _⟩
    · simp only [bnd, e] at h1
      exact h1.elim
    · simp only [bnd, e] at h1
      by_cases hl : ps.length ≤ 100000
      · rw [if_pos hl] at h1
        refine ⟨sz_of (by rw [← rp.length]; exact hl), fun p np => ?_⟩
        exact Pst.give h1 s2 r2 (Gr.add r2.sub np) (.tup (.inl (.inl upd_same)) (rp.mono (Gr.add (o := .tup vs) r2.sub np).sub))
      · rw [if_neg hl] at h1
        exact h1.elim⟩
theorem be_lst (ha : BA X N W es fs) : BE X N W (.List es pos) (bnd fs lstV) :=
  pe_weak (pe_lst ha) fun σ H Q ⟨ρ, R, r, h⟩ => ⟨ρ, R, r, Pst.bnd' .refl h fun xs ρ1 vs H1 R1 s1 _ r1 e1 h1 => by
    unfold lstV at h1
    rcases frzs_ok s1 r1 e1 with e | ⟨ps, ρ2, R2, e, s2, r2, rp, _⟩
    · simp only [bnd, e] at h1
      exact h1.elim
    · simp only [bnd, e] at h1
      by_cases hl : ps.length ≤ 100000
      · rw [if_pos hl] at h1
        refine ⟨sz_of (by rw [← rp.length]; exact hl), fun p np => ?_⟩
        exact Pst.give h1 s2 r2 (Gr.new_ r2.sub np) ⟨rfl, ⟨p, vs, rfl, upd_same, rp, rnone_of r2.sub np⟩, p, rfl, np⟩
      · rw [if_neg hl] at h1
        exact h1.elim⟩
end
end B

set_option Elab.async false
set_option linter.all false
set_option maxRecDepth 100000
set_option maxHeartbeats 4000000
/-! B6: kinds, isinstance, attributes, instances, built-ins, stores -/
namespace B
open PySem L2

/-! ### kinds -/
def PV.kd : PV → Kd
  | .at .non => .non
  | .at (.bl _) => .bl
  | .at (.int _) => .int
  | .at (.str _) => .str
  | .at _ => .oth
  | .tup _ => .tup
  | .lst _ => .lst
  | .scr _ => .lst
  | .ins c _ => .own c
  | .exc c none => .exc c
  | .exc _ (some _) => .oth
  | .dct _ _ => .dct
/-- what isinstance asks of an own class -/
structure InstF (K : PySem.W.Frag) (C : Addr) : Prop where
  cl : Cls K C
  ha : PySem.W.findIn K (.ref C) "__class__" = some (some (.builtin "object.__class__"))
  hn : PySem.W.specialIn K (.builtin "object.__class__") "__get__" = some (some (.builtin "getset_descriptor.__get__"))
  htk : PySem.W.takesIn K (.builtin "object.__class__") = some true
  hm : PySem.W.mroIn K C (.type "object") = some true
/-- a value whose class is told -/
inductive TyB (K : PySem.W.Frag) (H : Hp) : V → Value → Prop where
  | x {v : V} {t : Value} (h : TyX K H v t) : TyB K H v t
  | exc {a C : Addr} (h : H a = some (ExA (.ref C) none a)) (c : ExcC K C) : TyB K H (.ref a) (.ref C)
theorem kitB_of {X : Cx} {pins : List (Addr × Obj)} {σ : St} {H : Hp} {s : Shared} {x : V} {u t : Value} (I : Inv X pins σ H s) (rx : RelV x u) (ty : TyB X.K H x t) : ∃ P : Heap → Prop, PySem.W.KitX X.K u t P ∧ P s.heap ∧ u ≠ .builtin "__main__.__loader__#opaque" := by
  cases ty with
  | x h => exact kit_of I rx h
  | @exc a C h c =>
    cases (show u = Value.ref a from rx)
    obtain ⟨⟨oe, vs, h1, h2, h3⟩, _⟩ := (show ObjOk X.prog X.w H s.heap a (ExA (.ref C) none a) from I.hok a _ h)
    have J : PySem.W.InstAt s.heap a oe C none := by
      obtain ⟨c1, c2, c3, c4⟩ := oe
      obtain ⟨e1, e2⟩ := h2
      dsimp only at e1 e2 h3
      subst e1 e2 h3
      exact ⟨h1, rfl, rfl, trivial⟩
    exact ⟨_, PySem.W.handS_kitx_exc c.hg c.hk c.hs c.hd c.ha c.hn c.ht c.hm, J, fun z => nomatch z⟩
/-- isinstance(x, c) -/
def rIsB (K : PySem.W.Frag) : List V → Hp → VK → Prop := fun xs H Q => ∃ (x c : V) (t u : Value) (b : Bool), xs = [x, c] ∧ ClsV c u ∧ TyB K H x t ∧ PySem.W.kitOne K t u = some b ∧ Q (.bl b) H
theorem call_isB {X : Cx} : CallR X (.builtin "isinstance") (rIsB X.K) := fun pins s σ H xs us Q I r h => by
  obtain ⟨x, c, t, u, b, rfl, k, ty, e, q⟩ := h
  obtain ⟨u1, u2, rfl, r1, r2⟩ := vals2 r
  cases k.eq r2
  obtain ⟨P, Z, p, hx⟩ := kitB_of I r1 ty
  exact PySem.W.kia_one Z I.kIn p e hx fun tk => ⟨.bl b, H, I.tok tk, rfl, q⟩
/-- .. a tuple of classes -/
def rIsBT (K : PySem.W.Frag) : List V → Hp → VK → Prop := fun xs H Q => ∃ (x : V) (tp : Addr) (cs : List V) (t : Value) (us : List Value) (b : Bool), xs = [x, .ref tp] ∧ H tp = some (.tup cs) ∧ Paired ClsV cs us ∧ TyB K H x t ∧ PySem.W.kitAny K t us = some b ∧ Q (.bl b) H
theorem call_isBT {X : Cx} : CallR X (.builtin "isinstance") (rIsBT X.K) := fun pins s σ H xs us Q I r h => by
  obtain ⟨x, tp, cs, t, ws, b, rfl, hT, k, ty, e, q⟩ := h
  obtain ⟨u1, u2, rfl, r1, r2⟩ := vals2 r
  cases (show u2 = Value.ref tp from r2)
  obtain ⟨P, Z, p, hx⟩ := kitB_of I r1 ty
  obtain ⟨_, its, rv, ⟨oc, od, dt, sl⟩, h1, h2, n, h3⟩ := (show ObjOk X.prog X.w H s.heap tp (.tup cs) from I.hok tp _ hT)
  cases ClsV.all k rv
  dsimp only at h2 h3
  subst h2 h3
  exact PySem.W.kia_tup Z I.kIn p h1 e hx fun tk => ⟨.bl b, H, I.tok tk, rfl, q⟩
section
variable {K : PySem.W.Frag} {N : Nm} {W : WX} {H R H' R' H0 R0 : Hp} {ρ ρ' ρ0 : Env} {σ : St}
theorem tyx_of {p : PV} {v : V} (d : RepD K N H R p v) (sb : Sub R H) (hk : p.kd ≠ .oth) (hi : ∀ c, p.kd = .own c → InstF K (N.cl c)) (he : ∀ c, p.kd = .exc c → ExcC K (N.cl c)) : TyB K H v (p.kd.ty N) := by
  cases p with
  | «at» u =>
    cases (show Rep K N R (.at u) v from d)
    cases v with
    | non => exact .x <| .base .non
    | bl b => exact .x <| .base (.bl b)
    | int i => exact .x <| .base (.int i)
    | str x => exact .x <| .base (.str x)
    | _ => exact absurd rfl hk
  | tup ps =>
    cases (show Rep K N R (.tup ps) v from d) with
    | tup h q =>
      rcases sb.tup h with (h | ⟨o, h⟩) | ⟨o, its, n, h1, h2, _⟩
      · exact .x <| .base (.tup h)
      · exact .x <| .fTuple h
      · exact .x <| .kTuple h1 h2
  | lst ps =>
    obtain ⟨a, vs, rfl, h1, _⟩ := d
    exact .x <| .base (.lst h1)
  | scr ns =>
    cases (show Rep K N R (.scr ns) v from d) with
    | scr h =>
      rcases sb.seq h with (h | ⟨o, h⟩) | ⟨o, its, n, h1, h2, _⟩
      · exact .x <| .base (.lst h)
      · exact .x <| .base (.frz h)
      · exact .x <| .kList h1 h2
  | ins c fs =>
    obtain ⟨a, dx, gs, rfl, h1, _⟩ := d
    have f := hi c rfl
    exact .x <| .base (.ins h1 f.cl f.ha f.hn f.htk f.hm)
  | exc c o =>
    cases o with
    | none =>
      cases (show Rep K N R (.exc c none) v from d) with
      | exc h => exact .exc (sb _ _ h) (he c rfl)
    | some q => exact absurd rfl hk
  | dct ks ps =>
    cases (show Rep K N R (.dct ks ps) v from d) with
    | dct h _ _ => exact .x <| .base (.dK (sb _ _ h))
theorem deref_use {x : EV} {v : V} {γ δ : Type} {VR' : Hp → Hp → Hp → Env → St → γ → δ → Prop} {k : PV → M γ} {Q' : δ → Hp → Prop} {C : Prop} (h : Pst K N VR' W (bnd (deref x) k ρ) σ H0 R0 ρ0 Q') (r : SR K N H R ρ σ) {Ha : Hp} (ex : EvR K N Ha H R ρ σ x v)
    (hk : ∀ p, RepD K N H R p v → Pst K N VR' W (k p ρ) σ H0 R0 ρ0 Q' → C) : C := by
  rcases deref_ok r ex with ⟨p, e1, d1⟩ | e1
  · simp only [bnd, e1] at h
    exact hk p d1 h
  · simp only [bnd, e1] at h
    exact h.elim
theorem repF_get : ∀ {fs : List (Nat × PV)} {gs : List (Str × V)} {n : Nat} {p : PV}, RepF K N R fs gs → fs.lookup n = some p → ∃ v, gs.lookup (N.fl n) = some v ∧ Rep K N R p v
  | _, _, n, p, .nil, e => by cases e
  | _, _, n, p, @RepF.cons _ _ _ m q v ps vs h t, e => by
    by_cases hm : n = m
    · subst hm
      simp only [List.lookup, beq_self_eq_true] at e
      cases e
      exact ⟨v, by simp [List.lookup], h⟩
    · have h1 : (n == m) = false := beq_eq_false_iff_ne.mpr hm
      have h2 : (N.fl n == N.fl m) = false := beq_eq_false_iff_ne.mpr fun z => hm (N.inj _ _ z)
      simp only [List.lookup, h1] at e
      obtain ⟨u, g1, g2⟩ := repF_get t e
      exact ⟨u, by simp only [List.lookup, h2]; exact g1, g2⟩
theorem repF_none : ∀ {fs : List (Nat × PV)} {gs : List (Str × V)} {m : Str}, RepF K N R fs gs → (∀ i, N.fl i ≠ m) → gs.lookup m = none
  | _, _, m, .nil, _ => rfl
  | _, _, m, @RepF.cons _ _ _ n q v ps vs h t, e => by
    have h2 : (m == N.fl n) = false := beq_eq_false_iff_ne.mpr fun z => e n z.symm
    simp only [List.lookup, h2]
    exact repF_none t e
def putN (n : Nat) (p : PV) : List (Nat × PV) → List (Nat × PV)
  | [] => [(n, p)]
  | (m, q) :: r => if m = n then (m, p) :: r else (m, q) :: putN n p r
theorem repF_put {n : Nat} {p : PV} {v : V} (h : Rep K N R p v) : ∀ {fs : List (Nat × PV)} {gs : List (Str × V)}, RepF K N R fs gs → RepF K N R (putN n p fs) (putF (N.fl n) v gs)
  | _, _, .nil => .cons h .nil
  | _, _, @RepF.cons _ _ _ m q u ps vs h' t => by
    by_cases e : m = n
    · subst e
      show RepF K N R (if m = m then _ else _) (if N.fl m = N.fl m then _ else _)
      rw [if_pos rfl, if_pos rfl]
      exact .cons h t
    · have e2 : ¬ N.fl m = N.fl n := fun z => e (N.inj _ _ z)
      show RepF K N R (if m = n then _ else _) (if N.fl m = N.fl n then _ else _)
      rw [if_neg e, if_neg e2]
      exact .cons h' (repF_put h t)
theorem repF_len : ∀ {fs : List (Nat × PV)} {gs : List (Str × V)}, RepF K N R fs gs → fs.length = gs.length
  | _, _, .nil => rfl
  | _, _, .cons _ t => congrArg Nat.succ (repF_len t)
/-- one of one's own is changed: what it holds at a -/
theorem change_ok {i : Nat} {s s' : Sl} {a : Addr} {o : HO} (B : Stp H0 R0 ρ0 σ H R ρ σ) (r : SR K N H R ρ σ) (e : ρ[i]? = some (some s)) (ho : s.own = true) (ea : σ[i]? = some (some (.ref a))) (ho' : s'.own = true)
    (h' : SlAt K N (upd H a o) R s' (.ref a)) (hmut : ∀ dx, H dx = some (.own a) → (upd H a o) dx = some (.own a)) : Stp H0 R0 ρ0 σ (upd H a o) R (ρ.set i (some s')) σ ∧ SR K N (upd H a o) R (ρ.set i (some s')) σ := by
  have wa : Own ρ σ a := ⟨i, s, e, ho, ea⟩
  obtain ⟨oa, ha, ra⟩ := r.own_there wa
  have hil : i < ρ.length := (List.getElem?_eq_some_iff.mp e).1
  have slot : ∀ (j : Nat) x, (ρ.set i (some s'))[j]? = some (some x) → (j = i ∧ x = s') ∨ (j ≠ i ∧ ρ[j]? = some (some x)) := fun j x q => by
    by_cases z : j = i
    · subst z
      rw [List.getElem?_set_self hil] at q
      cases q
      exact .inl ⟨rfl, rfl⟩
    · rw [List.getElem?_set_ne (Ne.symm z)] at q
      exact .inr ⟨z, q⟩
  have back : ∀ (j : Nat) x b, (ρ.set i (some s'))[j]? = some (some x) → x.own = true → σ[j]? = some (some (.ref b)) → ∃ y, ρ[j]? = some (some y) ∧ y.own = true := fun j x b q hx _ => by
    rcases slot j x q with ⟨z1, z2⟩ | ⟨z1, z2⟩
    · subst z1; exact ⟨s, e, ho⟩
    · exact ⟨x, z2, hx⟩
  refine ⟨⟨B.sub, fun b u q n => ?_, B.new, fun b w => ?_, fun b q => ?_⟩, ⟨fun b u q => ?_, by simp [r.len], fun j x q => ?_, fun j k x y b hj hk hx hy hb hc => ?_⟩⟩
  · have hb : b ≠ a := fun z => by
      subst z
      rcases B.own b wa with z | z
      · exact n z
      · rw [z] at q; cases q
    rw [upd_ne hb]
    exact B.keep b u q n
  · obtain ⟨j, x, h1, h2, h3⟩ := w
    obtain ⟨y, g1, g2⟩ := back j x b h1 h2 h3
    exact B.own b ⟨j, y, g1, g2, h3⟩
  · by_cases hb : b = a
    · subst hb; rw [upd_same] at q; cases q
    · rw [upd_ne hb] at q; exact B.live b q
  · have hb : b ≠ a := fun z => by subst z; rw [ra] at q; cases q
    rw [upd_ne hb]; exact r.sub b u q
  · rcases slot j x q with ⟨z1, z2⟩ | ⟨z1, z2⟩
    · subst z1 z2; exact ⟨_, ea, h'⟩
    · obtain ⟨v, g1, g2⟩ := r.at_ j x z2
      refine ⟨v, g1, ?_⟩
      cases hx : x.own with
      | false =>
        cases x with
        | fz p => exact g2
        | ow xs => cases hx
        | oi c fs => cases hx
      | true =>
        obtain ⟨b, ob, z3, z4, z5⟩ := g2.there hx
        subst z3
        have hb : b ≠ a := fun z => z1 (r.sep j i x s a z2 e hx ho (by rw [g1, z]) ea)
        exact g2.keep hx (Sub.refl _) (fun o q => by rw [upd_ne hb]; exact q) fun _ _ q => q
  · obtain ⟨x', g1, g2⟩ := back j x b hj hx hb
    obtain ⟨y', g3, g4⟩ := back k y b hk hy hc
    exact r.sep j k x' y' b g1 g3 g2 g4 hb hc
end

section
variable {X : Cx} {N : Nm} {W : WX} {P : List Nat} {a b e o : Expr} {es : List Expr} {pos p p' apos : Pos} {f g : M EV} {fs : M (List EV)} {x m : Str}
/-! ### isinstance -/
def isiV (t : Kd → Option Bool) (x : EV) : M EV := bnd (deref x) fun p => lift ((t p.kd).map fun b => .fz (.bl b))
/-- what a table of answers must be: u the class -/
def IsiF (K : PySem.W.Frag) (N : Nm) (u : Value) (t : Kd → Option Bool) : Prop := ∀ k b, t k = some b → k ≠ .oth ∧ (∀ c, k = .own c → InstF K (N.cl c)) ∧ (∀ c, k = .exc c → ExcC K (N.cl c)) ∧ PySem.W.kitOne K (k.ty N) u = some b
theorem be_isi {c : V} {u : Value} {t : Kd → Option Bool} (ha : BE X N W a f) (hc : PE X b (tC c)) (hv : ClsV c u) (hT : IsiF X.K N u t) (hg : Gl X "isinstance") (hm : X.mg "isinstance" = none) (hs1 : starEach [a, b] X.env = (false, eval a X.env) :: starEach [b] X.env := by rfl) (hs2 : starEach [b] X.env = (false, eval b X.env) :: starEach [] X.env := by rfl) (hpl : (backTo pos (starEach [b] X.env)).any (·.1) = false := by rfl) :
    BE X N W (.Call (.Name "isinstance" p) [a, b] [] pos) (bnd f fun x => isiV t x) :=
  pe_weak (pe_callB call_isB hg hm (by decide +kernel) (pa_cons ha (pa_cons hc pa_nil hs2) hs1) (he := hs1) (hpl := hpl)) fun σ H Q ⟨ρ, R, r, h⟩ => ⟨ρ, R, r, Pst.bnd' .refl h fun x ρ1 v H1 R1 s1 _ r1 e1 h1 => deref_use h1 r1 e1 fun q d h2 => by
    cases e2 : t q.kd with
    | none => rw [e2] at h2; exact h2.elim
    | some b =>
      rw [e2] at h2
      obtain ⟨t1, t2, t4, t3⟩ := hT _ _ e2
      exact ⟨v, c, _, u, b, rfl, hv, tyx_of d r1.sub t1 t2 t4, t3, Pst.give h2 s1 r1 (Gr.refl r1.sub) (.at _)⟩⟩

/-! ### attributes -/
def fldV (c n : Nat) (x : EV) : M EV := bnd (deref x) fun p => match p with
  | .ins c' fs => if c' = c then lift ((fs.lookup n).map .fz) else no
  | _ => no
theorem be_fld (c n : Nat) (ha : BE X N W a f) (hx : N.fl n = x) (hc : Cls X.K (N.cl c)) (hn : NoAttr X.K (N.cl c) x) (hb : attributeBase a x X.env (eval a X.env) = eval a X.env := by rfl) : BE X N W (.Attribute a x pos) (bnd f fun y => fldV c n y) := by
  subst hx
  exact pe_weak (pe_fld ha hb) fun σ H Q ⟨ρ, R, r, h⟩ => ⟨ρ, R, r, Pst.bnd' .refl h fun y ρ1 v H1 R1 s1 _ r1 e1 h1 => deref_use h1 r1 e1 fun q d h2 => by
    cases q with
    | ins c' fs =>
      dsimp only at h2
      by_cases hcc : c' = c
      · subst hcc
        rw [if_pos rfl] at h2
        obtain ⟨i, dx, gs, rfl, h3, h4⟩ := d
        cases e2 : fs.lookup n with
        | none => rw [e2] at h2; exact h2.elim
        | some q =>
          rw [e2] at h2
          obtain ⟨u, g1, g2⟩ := repF_get h4 e2
          exact ⟨i, _, dx, gs, u, rfl, h3, hc, hn, g1, Pst.give h2 s1 r1 (Gr.refl r1.sub) g2⟩
      · rw [if_neg hcc] at h2; exact h2.elim
    | _ => exact h2.elim⟩
/-- self.f = e -/
def setFld (c n i : Nat) (v : EV) : MS := doS (frz v) fun p ρ => match ρ[i]? with
  | some (some (.oi c' fs)) => if c' = c ∧ fs.length < 100 then .nx (ρ.set i (some (.oi c' (putN n p fs)))) else .no
  | _ => .no
theorem bs_fld (c n i : Nat) {y : Str} (hv : BE X N W e f) (hx : N.fl n = x) (hc : Cls X.K (N.cl c)) (hn : NoAttr X.K (N.cl c) x) (hN : X.N[i]? = some y := by rfl) (hvs : Vis X.env.scope y := by first | exact Or.inl rfl | exact Or.inr (Or.inl rfl) | exact Or.inr (Or.inr rfl))
    (hd : (y == ("__debug__" : Str)) = false := by decide) (hcd : (y == ("__classdict__" : Str)) = false := by decide) (hs : swapsWith e (some (.Attribute (.Name y p) x p')) pos.line X.env = pure false := by rfl) : BS X N W P (.Assign [.Attribute (.Name y p) x p'] e pos) (doS f fun v => setFld c n i v) := by
  subst hx
  exact ps_weak (ps_fld (pe_var hN hvs hd hcd) hv hs) fun D σ H ⟨ρ, R, r, h⟩ => ⟨ρ, R, r, PsS.doE (fun _ _ _ z => z) h fun v ρ1 u H1 R1 s1 r1 e1 h1 => by
    unfold setFld at h1
    rcases frz_ok s1 r1 e1 with e | ⟨q, ρ2, R2, e, s2, r2, rp, sb, _⟩
    · simp only [doS, e] at h1
      exact h1.elim
    · simp only [doS, e] at h1
      cases e3 : ρ2[i]? with
      | none => rw [e3] at h1; exact h1.elim
      | some oo =>
        cases oo with
        | none => rw [e3] at h1; exact h1.elim
        | some s =>
          cases s with
          | fz _ => rw [e3] at h1; exact h1.elim
          | ow _ => rw [e3] at h1; exact h1.elim
          | oi c' fs =>
            rw [e3] at h1
            dsimp only at h1
            by_cases hcc : c' = c ∧ fs.length < 100
            · rw [if_pos hcc] at h1
              obtain ⟨rfl, hl⟩ := hcc
              obtain ⟨w, g1, i2, dx, gs, rfl, g2, g3, g4⟩ := r2.at_ i _ e3
              refine ⟨_, g1, i2, _, dx, gs, rfl, g2, hc, hn, by rw [← repF_len g3]; omega, ?_⟩
              obtain ⟨b1, b2⟩ := change_ok (o := .ins (N.cl c') dx (putF (N.fl n) u gs)) (s' := .oi c' (putN n q fs)) s2 r2 e3 rfl g1 rfl ⟨i2, dx, _, rfl, upd_same, repF_put rp g3, g4⟩ (fun d q => by
                rw [upd_ne]; · exact q
                · rintro rfl; rw [g2] at q; cases q)
              exact h1 σ _ R2 b1 b2 Prot.refl
            · rw [if_neg hcc] at h1; exact h1.elim⟩

/-! ### built-ins by values -/
def RepDs (K : PySem.W.Frag) (N : Nm) (H R : Hp) : List PV → List V → Prop
  | [], [] => True
  | p :: ps, v :: vs => RepD K N H R p v ∧ RepDs K N H R ps vs
  | _, _ => False
def derefs : List EV → M (List PV)
  | [] => pur []
  | x :: xs => bnd (deref x) fun p => bnd (derefs xs) fun ps => pur (p :: ps)
theorem derefs_ok {K : PySem.W.Frag} {H R H0 : Hp} {ρ : Env} {σ : St} (r : SR K N H R ρ σ) : ∀ {xs : List EV} {vs : List V}, EvsR K N H0 H R ρ σ xs vs → derefs xs ρ = .no ∨ ∃ ps, derefs xs ρ = .ok ps ρ ∧ RepDs K N H R ps vs
  | [], vs, ev => by
    have : vs = [] := List.eq_nil_of_length_eq_zero ev.1.symm
    subst this
    exact .inr ⟨[], rfl, True.intro⟩
  | x :: xs, [], ev => by have := ev.1; simp at this
  | x :: xs, v :: vs, ev => by
    rcases deref_ok r (ev.2.1 0 x v rfl rfl) with ⟨p, e, d⟩ | e
    · rcases derefs_ok r ev.tail with e2 | ⟨ps, e2, d2⟩
      · exact .inl (by simp [derefs, bnd, e, e2])
      · exact .inr ⟨p :: ps, by simp [derefs, bnd, e, e2, pur], d, d2⟩
    · exact .inl (by simp [derefs, bnd, e])
def CallS (K : PySem.W.Frag) (N : Nm) (r : List V → Hp → VK → Prop) (s : List PV → Option EV) : Prop := ∀ (H R : Hp) ps e vs (Q : VK), Sub R H → RepDs K N H R ps vs → s ps = some e → (∀ v H' R', Gr H R H' R' → NvR K N H H' R' e v → Q v H') → r vs H Q
def bltV (s : List PV → Option EV) (xs : List EV) : M EV := bnd (derefs xs) fun ps => lift (s ps)
theorem bltV_ok {K : PySem.W.Frag} {H R H0 R0 : Hp} {ρ ρ0 : Env} {σ : St} {r : List V → Hp → VK → Prop} {s : List PV → Option EV} (hs : CallS K N r s) {xs : List EV} {vs : List V} {Q : VK} (h : Pst K N (EvR K N) W (bltV s xs ρ) σ H0 R0 ρ0 Q) (B : Stp H0 R0 ρ0 σ H R ρ σ) (sr : SR K N H R ρ σ) {Ha : Hp} (ev : EvsR K N Ha H R ρ σ xs vs) : r vs H Q := by
  unfold bltV at h
  rcases derefs_ok sr ev with e | ⟨ps, e, d⟩
  · simp only [bnd, e] at h
    exact h.elim
  · simp only [bnd, e] at h
    cases e2 : s ps with
    | none => rw [e2] at h; exact h.elim
    | some z =>
      rw [e2] at h
      exact hs H R ps z vs Q sr.sub d e2 fun v' H' R' g n => Pst.give h B sr g n
theorem be_callB {id : String} {r : List V → Hp → VK → Prop} {s : List PV → Option EV} (hc : CallR X (.builtin id) r) (hs : CallS X.K N r s) (hg : Gl X x) (hm : X.mg x = none) (hv : bootBuiltins x = some (.builtin id)) (ha : BA X N W (e :: es) fs) (hn : x ≠ "__name__" := by decide) (hdb : (x == ("__debug__" : Str)) = false := by decide)
    (he : starEach (e :: es) X.env = (false, eval e X.env) :: starEach es X.env := by rfl) (hpl : (backTo pos (starEach es X.env)).any (·.1) = false := by rfl) : BE X N W (.Call (.Name x p) (e :: es) [] pos) (bnd fs fun xs => bltV s xs) :=
  pe_weak (pe_callB hc hg hm hv ha hn hdb (he := he) (hpl := hpl)) fun σ H Q ⟨ρ, R, r, h⟩ => ⟨ρ, R, r, Pst.bnd' .refl h fun xs ρ1 vs H1 R1 s1 _ r1 e1 h1 => bltV_ok hs h1 s1 r1 e1⟩
theorem be_callTy {id : String} {r : List V → Hp → VK → Prop} {s : List PV → Option EV} (hc : CallR X (.type id) r) (hs : CallS X.K N r s) (hg : Gl X x) (hm : X.mg x = none) (hv : bootBuiltins x = some (.type id)) (ha : BA X N W (e :: es) fs) (hn : x ≠ "__name__" := by decide) (hdb : (x == ("__debug__" : Str)) = false := by decide) (he : starEach (e :: es) X.env = (false, eval e X.env) :: starEach es X.env := by rfl) (hpl : (backTo pos (starEach es X.env)).any (·.1) = false := by rfl) :
    BE X N W (.Call (.Name x p) (e :: es) [] pos) (bnd fs fun xs => bltV s xs) :=
  pe_weak (pe_callTy hc hg hm hv ha hn hdb (he := he) (hpl := hpl)) fun σ H Q ⟨ρ, R, r, h⟩ => ⟨ρ, R, r, Pst.bnd' .refl h fun xs ρ1 vs H1 R1 s1 _ r1 e1 h1 => bltV_ok hs h1 s1 r1 e1⟩
def s2I (g : Int → Int → V) : List PV → Option EV
  | [.at (.int i), .at (.int j)] => some (.fz (.at (g i j)))
  | _ => none
theorem cs_2I {K : PySem.W.Frag} {g : Int → Int → V} : CallS K N (fun xs H Q => ∃ i j, xs = [.int i, .int j] ∧ Q (g i j) H) (s2I g) := fun H R ps e vs Q sb d hs k => by
  unfold s2I at hs
  split at hs
  · rename_i i j
    match vs, d with
    | [v, u], d =>
      cases hs
      cases repd_at d.1
      cases repd_at d.2.1
      exact ⟨i, j, rfl, k _ H R (Gr.refl sb) (.at _)⟩
  · cases hs

/-! ### stores -/
/-- xs[i] = e, xs a name whose list is one's own -/
def setIx (j : Nat) (p : PV) (ix : EV) : MS := fun ρ => match ix, ρ[j]? with
  | .fz (.at (.int k)), some (some (.ow xs)) => (match ixN xs.length k with
    | some n => .nx (ρ.set j (some (.ow (xs.set n p))))
    | none => .no)
  | _, _ => .no
theorem bs_setix (j : Nat) {y : Str} (hv : BE X N W e f) (hi : BE X N W a g) (hN : X.N[j]? = some y := by rfl) (hvs : Vis X.env.scope y := by first | exact Or.inl rfl | exact Or.inr (Or.inl rfl) | exact Or.inr (Or.inr rfl))
    (hd : (y == ("__debug__" : Str)) = false := by decide) (hcd : (y == ("__classdict__" : Str)) = false := by decide)
    (ha : ∀ v, assign (.Subscript (.Name y p) a p') X.env v = (do
      let ov ← holding [v] (eval (.Name y p) X.env)
      let iv ← holding [v, ov] (eval a X.env)
      standAt p'
      holding [v, ov, iv] (setItem ov iv v)
      release [v, ov, iv] []) := by intro _; rfl)
    (hs : swapsWithSole [.Subscript (.Name y p) a p'] e pos.line X.env = pure false := by rfl) (hw : swappedStores [.Subscript (.Name y p) a p'] e X.env = pure none := by rfl) (h1 : (assignEach [.Subscript (.Name y p) a p'] X.env).map (·.2) = [assign (.Subscript (.Name y p) a p') X.env] := by rfl) :
    BS X N W P (.Assign [.Subscript (.Name y p) a p'] e pos) (doS f fun v => doS (frz v) fun q => doS (getV j) fun _ => doS g fun ix => setIx j q ix) :=
  ps_weak (ps_asg hv (pg_sub (pe_var hN hvs hd hcd) hi set_list ha) hs hw h1) fun D σ H ⟨ρ, R, r, h⟩ => ⟨ρ, R, r, PsS.doE (fun _ _ _ z => z) h fun v ρ1 u H1 R1 s1 r1 e1 h1 => by
    rcases frz_ok s1 r1 e1 with e | ⟨q, ρ2, R2, e, s2, r2, rp, sb, _⟩
    · simp only [doS, e] at h1
      exact h1.elim
    · have h2 : PsS X.K N W P (doS (getV j) (fun _ => doS g (fun ix => setIx j q ix)) ρ2) σ H R ρ D := by
        unfold doS at h1
        rw [e] at h1
        exact h1
      have h3 : PsS X.K N W P (doS g (fun ix => setIx j q ix) ρ2) σ H R ρ D ∧ ∃ s, ρ2[j]? = some (some s) := by
        unfold doS getV at h2
        cases e5 : ρ2[j]? with
        | none => rw [e5] at h2; exact h2.elim
        | some oo =>
          cases oo with
          | none => rw [e5] at h2; exact h2.elim
          | some s => rw [e5] at h2; cases s <;> exact ⟨h2, _, rfl⟩
      obtain ⟨h3, s, es⟩ := h3
      obtain ⟨ov, g1, _⟩ := r2.at_ j s es
      refine ⟨ov, g1, ρ2, R2, r2, PsS.doE' s2 h3 fun ix ρ3 iv H3 R3 s3 s23 r3 e3 h4 => ?_⟩
      unfold setIx at h4
      split at h4
      · rename_i k xs e6
        split at h4
        · rename_i n e7
          obtain ⟨w, g2, i2, vs, rfl, g3, g4, g5⟩ := r3.at_ j _ e6
          rw [g1] at g2; cases g2
          cases (show Rep X.K N R3 (.at (.int k)) iv from e3)
          refine ⟨i2, vs, k, n, rfl, rfl, g3, by rw [← g4.length]; exact e7, ?_⟩
          have rq : Rep X.K N R3 q u := Rep.mono s23.sub rp
          obtain ⟨b1, b2⟩ := change_ok (o := .lst (vs.set n u)) (s' := .ow (xs.set n q)) s3 r3 e6 rfl g1 rfl ⟨i2, _, rfl, upd_same, g4.set rq n, g5⟩ (fun d q => by
            rw [upd_ne]; · exact q
            · rintro rfl; rw [g3] at q; cases q)
          exact h4 σ _ R3 b1 b2 Prot.refl
        · exact h4.elim
      · exact h4.elim⟩
end
end B

set_option Elab.async false
set_option linter.all false
set_option maxRecDepth 100000
set_option maxHeartbeats 4000000
/-! B7: own classes: made, called, their methods, properties, operators; what is raised is wished for at the slots -/
namespace B
open PySem L2

section
variable {X : Cx} {CX : CXT} {k : Nat} {f C : Addr} {fd : FuncData} {ps : List Str} {sp : Sp} {E : XK} {pins : List (Addr × Obj)} {σ : St} {H : Hp} {s : Shared} {Q : VK}
theorem run_codeS {us : List Value} {vs : List V} (F : FnG X.prog X.w X.K X.mg X.base CX k f fd ps sp) {A : Around} (hr : RmG k A) (e0 : Env0 X.prog X.w X.K X.mg X.base A X.stack s H) (hb : Binds X.K fd ps []) (hx : PassesAt CX X σ E) (I : Inv X pins σ H s) (r : Vals vs us) (h : sp vs H Q E) :
    codeAny (model X.prog X.w) A (.call (.ref f) ⟨us, []⟩) (fun r s' => match r with | .ok (.ret v) => EP X pins σ Q v s' | .ok _ => False | .error e => X.xe e s') s := by
  have hl : us.length = ps.length := by rw [← r.length]; exact F.len _ _ _ _ h
  have b := hb s us I.kIn (by rw [List.append_nil]; exact hl)
  rw [List.append_nil] at b
  refine codeAny_mono (F.run A X.stack s H ⟨us, []⟩ us vs Q E hr e0 b r h) fun r s' hq => ?_
  cases r with
  | error e => exact hx pins H s e s' I hq
  | ok fl =>
    cases fl with
    | ret u => exact I.after hq
    | next => exact False.elim hq
    | brk => exact False.elim hq
    | cont => exact False.elim hq
theorem run_callS {us : List Value} {vs : List V} (F : FnG X.prog X.w X.K X.mg X.base CX k f fd ps sp) (hr : RmG k X.A) (hb : Binds X.K fd ps []) (hx : PassesAt CX X σ E) (I : Inv X pins σ H s) (r : Vals vs us) (h : sp vs H Q E) :
    wpAny (model X.prog X.w) X.A (call (.ref f) us) (EP X pins σ Q) X.xe s := by
  refine wpAny_call (codeAny_mono (run_codeS F hr I.env0 hb hx I r h) fun r s' hq => ?_)
  cases r with
  | error e => exact hq
  | ok fl => cases fl <;> exact hq
theorem run_makeS {us : List Value} {vs : List V} (M : Mk X.K C f) (F : FnG X.prog X.w X.K X.mg X.base CX k f fd ps sp) (hr : RmG (k + 1) X.A) (hb : Binds X.K fd ps []) (hx : PassesAt CX X σ E) (I : Inv X pins σ H s) (r : Vals vs us)
    (h : ∀ x dx, H x = none → H dx = none → dx ≠ x → sp (.ref x :: vs) (upd (upd H dx (.own x)) x (.ins C dx [])) (fun v H2 => v = .non ∧ Q (.ref x) H2) E) :
    wpAny (model X.prog X.w) X.A (call (.ref C) us) (EP X pins σ Q) X.xe s := by
  have hq := h (s.heap.objs.size + 1) s.heap.objs.size (I.hok.fresh (Nat.le_succ _)) (I.hok.fresh (Nat.le_refl _)) (Nat.ne_of_lt (Nat.lt_succ_self _))
  have I2 := Inv.made (C := C) I
  have r2 : Vals (V.ref (s.heap.objs.size + 1) :: vs) (Value.ref (s.heap.objs.size + 1) :: us) := .cons rfl r
  refine wpAny_call (make_map (f := f) I.kIn M.makes M.init (beq_iff_eq.mp M.fn) (codeAny_mono (run_codeS F (hr.make C us []) (I2.env0.make C us []) hb hx I2 r2 hq) fun r s' hq' => ?_))
  cases r with
  | error e => exact hq'
  | ok fl =>
    cases fl with
    | ret u =>
      obtain ⟨v, H', I3, rv, ev, q3⟩ := hq'
      subst ev
      exact ⟨rv, ⟨V.ref (s.heap.objs.size + 1), H', I3, rfl, q3⟩⟩
    | next => exact False.elim hq'
    | brk => exact False.elim hq'
    | cont => exact False.elim hq'
end
section
variable {X : Cx} {CX : CXT} {k : Nat} {f C : Addr} {fd : FuncData} {ps : List Str} {sp : Sp} {E : St → XK} {x m : Str} {p pos apos : Pos} {e o a b fe : Expr} {es : List Expr} {ta tb tf : TE} {t : TA}
def tMakeS (C : Addr) (sp : Sp) (E : St → XK) (t : TA) : TE := fun σ H Q => t σ H fun vs H1 => ∀ x dx, H1 x = none → H1 dx = none → dx ≠ x →
  sp (.ref x :: vs) (upd (upd H1 dx (.own x)) x (.ins C dx [])) (fun v H2 => v = .non ∧ Q (.ref x) H2) (E σ)
theorem pe_makeS (M : Mk X.K C f) (F : FnG X.prog X.w X.K X.mg X.base CX k f fd ps sp) (hr : RmG (k + 1) X.A) (hg : Gl X x) (hm : X.mg x = some (.ref C)) (hb : Binds X.K fd ps []) (hx : ∀ σ, PassesAt CX X σ (E σ))
    (ha : PA X (e :: es) t) (hdb : (x == ("__debug__" : Str)) = false := by decide) (he : starEach (e :: es) X.env = (false, eval e X.env) :: starEach es X.env := by rfl) (hpl : (backTo pos (starEach es X.env)).any (·.1) = false := by rfl) :
    PE X (.Call (.Name x p) (e :: es) [] pos) (tMakeS C sp E t) := by
  refine ⟨fun pins s σ H Q I h => ?_⟩
  refine wpAny_Call_Name_kw (ld_glob I hg hm ?_ hdb)
  refine PySem.W.callWith_K (h₀ := X.base) I.ok.mod.kin M.kp (thn (ha.run pos pins s σ H _ I h) fun us s1 ⟨vs, H1, I1, r, q⟩ => ⟨I1.kIn, ?_⟩) he hpl
  exact run_makeS M F hr hb (hx σ) I1 r q
def tMethS (C : Addr) (m : Str) (sp : Sp) (E : St → XK) (ta : TE) (t : TA) : TE := fun σ H Q => ta σ H fun x H1 => ∃ a dx fs, x = .ref a ∧ H1 a = some (.ins C dx fs) ∧ fs.lookup m = none ∧ t σ H1 fun vs H2 => sp (x :: vs) H2 Q (E σ)
theorem pe_methS {pl : Sem Bool} (he : PE X o ta) (c : Cls X.K C) (hm : Meth X.K C m f) (F : FnG X.prog X.w X.K X.mg X.base CX k f fd ps sp) (hr : RmG k X.A) (hb : Binds X.K fd ps []) (hx : ∀ σ, PassesAt CX X σ (E σ)) (ha : PA X (e :: es) t)
    (hst : starEach (e :: es) X.env = (false, eval e X.env) :: starEach es X.env := by rfl) (hpl : (backTo pos (starEach es X.env)).any (·.1) = false := by rfl)
    (ht : eval (.Call (.Attribute o m apos) (e :: es) [] pos) X.env = (do
      let ov ← eval o X.env
      standAt apos.atName
      let (f, first) ← holding [ov] (getMethod ov m pl)
      callWith pos f first (backTo pos (starEach (e :: es) X.env)) (backToKw pos (keywordEach [] X.env))) := by rfl) :
    PE X (.Call (.Attribute o m apos) (e :: es) [] pos) (tMethS C m sp E ta t) := by
  refine ⟨fun pins s σ H Q I h => ?_⟩
  refine PySem.W.methodCall_KW (pl := pl) (thn (he.run pins s σ H _ I h) fun u s1 ⟨x, H1, I1, rx, a, dx, fs, ex, ea, l, q⟩ => ?_) ht
  subst ex
  obtain rfl : u = Value.ref a := rx
  refine getmeth_ok I1 ea c hm l ?_
  refine PySem.W.callWith_K (first := [.ref a]) (h₀ := X.base) I.ok.mod.kin hm.kp (thn (ha.run pos pins s1 σ H1 _ I1 q) fun us s2 ⟨vs, H2, I2, r, q2⟩ => ⟨I2.kIn, ?_⟩) hst hpl
  exact run_callS (us := .ref a :: us) (vs := .ref a :: vs) F hr hb (hx σ) I2 (.cons rfl r) q2
/-- f(e, ..), f an expression that gives an instance of C -/
def tCallOS (C : Addr) (sp : Sp) (E : St → XK) (tf : TE) (t : TA) : TE := fun σ H Q => tf σ H fun y H1 => ∃ a, y = V.ref a ∧ t σ H1 fun vs H2 => (∃ dx fs, H2 a = some (.ins C dx fs)) ∧ sp (V.ref a :: vs) H2 Q (E σ)
theorem pe_callOS {g : Addr} (hf : PE X fe tf) (c : StX.CallO X.K C g) (F : FnG X.prog X.w X.K X.mg X.base CX k g fd ps sp) (hr : RmG k X.A) (hb : Binds X.K fd ps []) (hx : ∀ σ, PassesAt CX X σ (E σ)) (ha : PA X (e :: es) t)
    (ht : eval (.Call fe (e :: es) [] pos) X.env = (do callWith pos (← eval fe X.env) [] (backTo pos (starEach (e :: es) X.env)) (backToKw pos (keywordEach [] X.env))) := by rfl)
    (he : starEach (e :: es) X.env = (false, eval e X.env) :: starEach es X.env := by rfl) (hpl : (backTo pos (starEach es X.env)).any (·.1) = false := by rfl) : PE X (.Call fe (e :: es) [] pos) (tCallOS C sp E tf t) := by
  refine ⟨fun pins s σ H Q I h => ?_⟩
  refine PyProof.Rows.Call_ (thn (hf.run pins s σ H _ I h) fun u s1 ⟨y, H1, I1, ry, a, ey, q⟩ => ?_) ht
  subst ey
  obtain rfl : u = Value.ref a := ry
  refine StX.callO_with (thn (ha.run pos pins s1 σ H1 _ I1 q) fun us s2 ⟨vs, H2, I2, r, hi, q2⟩ => ?_) he hpl
  obtain ⟨dx, fs, hi⟩ := hi
  obtain ⟨ox, od, J, hd⟩ := StX.insC_at (C := C) I2 (.inr ⟨dx, fs, hi⟩)
  refine ⟨⟨C, ox, od, J, hd⟩, wpAny_call (PySem.W.kco_code (a := ⟨us, []⟩) I2.kIn J hd c.at_ c.fn c.fi (codeAny_mono (run_codeS (us := .ref a :: us) (vs := .ref a :: vs) F hr I2.env0 hb (hx σ) I2 (.cons rfl r) q2) fun r s' hq => ?_))⟩
  cases r with
  | error e => exact hq
  | ok fl => cases fl <;> exact hq
/-- what comes back from an own operator is none of the interpreter's own signs -/
theorem back_of {pins : List (Addr × Obj)} {σ : St} {Q : VK} {u : Value} {s : Shared} (h : EP X pins σ Q u s) : PySem.W.CmpBack (EP X pins σ Q) u s := by
  obtain ⟨v, H', I, r, q⟩ := h
  have h : EP X pins σ Q u s := ⟨v, H', I, r, q⟩
  cases v with
  | non => cases (show u = Value.none from r); exact h
  | bl b => cases (show u = Value.bool b from r); exact h
  | int i => obtain ⟨t, rfl⟩ := r; exact h
  | str i => obtain ⟨t, rfl⟩ := r; exact h
  | byt i => obtain ⟨t, rfl⟩ := r; exact h
  | flt i => obtain ⟨t, rfl⟩ := r; exact h
  | ref i => cases (show u = Value.ref i from r); exact h
  | ty i => cases (show u = Value.type i from r); exact h
/-- an own class's operator: what its two sides must be -/
structure OwnOp (K : PySem.W.Frag) (C f : Addr) (m : Str) : Prop where
  first : PySem.W.selfFirst K C = true
  at_ : PySem.W.findIn K (.ref C) m = some (some (.ref f))
  fn : PySem.W.isFn K (.ref f) = true
def tOwn (C : Addr) (L : V → Hp → Prop) (sp : Sp) (E : St → XK) (ta tb : TE) : TE := fun σ H Q => ta σ H fun x H1 => tb σ H1 fun y H2 => ∃ a dx fs, x = .ref a ∧ H2 a = some (.ins C dx fs) ∧ L y H2 ∧ sp [x, y] H2 Q (E σ)
/-- x op y, both of C -/
theorem pe_own2 {op : Operator} (O : OwnOp X.K C f (PySem.dunder op.info.2)) (F : FnG X.prog X.w X.K X.mg X.base CX k f fd ps sp) (hr : RmG k X.A) (hb : Binds X.K fd ps []) (hx : ∀ σ, PassesAt CX X σ (E σ)) (ha : PE X a ta) (hb' : PE X b tb) :
    PE X (.BinOp a op b pos) (tOwn C (fun y H => ∃ c dx fs, y = .ref c ∧ H c = some (.ins C dx fs)) sp E ta tb) := by
  refine ⟨fun pins s σ H Q I h => ?_⟩
  refine wpAny_BinOp (bin ha hb' I h fun v u s2 x y H2 I2 rx ry q => ?_)
  obtain ⟨a1, dx, fs, rfl, h1, ⟨c, dy, gs, rfl, h2⟩, q⟩ := q
  cases rx
  cases ry
  obtain ⟨mA, J, _⟩ := ins_get I2.hok h1
  obtain ⟨mB, J', _⟩ := ins_get I2.hok h2
  obtain ⟨od, J, _⟩ := J.look
  obtain ⟨od', J', _⟩ := J'.look
  obtain ⟨mm, hF⟩ := I2.fr
  exact PySem.W.binop_K hF I2.ok.mod.kin J J'.type O.first O.at_ O.fn (thn (run_callS (us := [.ref a1, .ref c]) (vs := [.ref a1, .ref c]) F hr hb (hx σ) I2 (.cons rfl (.cons rfl .nil)) q) fun u s h => back_of h)
/-- x op y, y of a built-in type -/
structure OwnOpT (K : PySem.W.Frag) (C : Addr) (nm : String) (T : String) : Prop where
  refl : ∃ rc, PySem.W.findIn K (.ref C) (PySem.dunderR nm) = some rc ∧ (rc = none ∨ ∃ g : Addr, rc = some (.ref g))
  fo : ∃ fo, PySem.W.findIn K (.type T) (PySem.dunder nm) = some fo
  ro : ∃ ro, PySem.W.findIn K (.type T) (PySem.dunderR nm) = some ro
  sub : PySem.W.subIn K (.type T) (.ref C) = some false
theorem pe_ownI {op : Operator} (O : OwnOp X.K C f (PySem.dunder op.info.2)) (T : OwnOpT X.K C op.info.2 "int") (F : FnG X.prog X.w X.K X.mg X.base CX k f fd ps sp) (hr : RmG k X.A) (hb : Binds X.K fd ps []) (hx : ∀ σ, PassesAt CX X σ (E σ)) (ha : PE X a ta) (hb' : PE X b tb) :
    PE X (.BinOp a op b pos) (tOwn C (fun y _ => ∃ i, y = .int i) sp E ta tb) := by
  refine ⟨fun pins s σ H Q I h => ?_⟩
  refine wpAny_BinOp (bin ha hb' I h fun v u s2 x y H2 I2 rx ry q => ?_)
  obtain ⟨a1, dx, fs, rfl, h1, ⟨i, rfl⟩, q⟩ := q
  cases rx
  obtain ⟨t, rfl⟩ := ry
  obtain ⟨mA, J, _⟩ := ins_get I2.hok h1
  obtain ⟨od, J, _⟩ := J.look
  obtain ⟨mm, hF⟩ := I2.fr
  obtain ⟨rc, r1, r2⟩ := T.refl
  obtain ⟨fo, t1⟩ := T.fo
  obtain ⟨ro, t2⟩ := T.ro
  exact PySem.W.ksp_binT (T := "int") hF I2.ok.mod.kin J rfl O.first O.at_ O.fn r1 r2 t1 t2 T.sub (thn (run_callS (us := [.ref a1, .int i t]) (vs := [.ref a1, .int i]) F hr hb (hx σ) I2 (.cons rfl (.cons ⟨t, rfl⟩ .nil)) q) fun u s h => back_of h)
/-- x == y by an own __eq__, y anything whose type is told -/
theorem pe_owncmp {op : CmpOp} (O : OwnOp X.K C f (cmpInfo op).2.1) (hop : ∀ v u, compareOp op v u = richCompare op v u) (F : FnG X.prog X.w X.K X.mg X.base CX k f fd ps sp) (hr : RmG k X.A) (hb : Binds X.K fd ps []) (hx : ∀ σ, PassesAt CX X σ (E σ)) (ha : PE X a ta) (hb' : PE X b tb) (hm : behindInMarks op b = false) :
    PE X (.Compare a [op] [b] pos) (tOwn C (fun y H => ∃ t, TyB X.K H y t ∧ PySem.W.notFirst X.K C t = true) sp E ta tb) := by
  refine ⟨fun pins s σ H Q I h => ?_⟩
  refine wpAny_Compare1 (bin ha hb' I h fun v u s2 x y H2 I2 rx ry q => ?_) hm
  obtain ⟨a1, dx, fs, rfl, h1, ⟨t, ty, nf⟩, q⟩ := q
  cases rx
  obtain ⟨mA, J, _⟩ := ins_get I2.hok h1
  obtain ⟨od, J, _⟩ := J.look
  obtain ⟨mm, hF⟩ := I2.fr
  obtain ⟨Pz, Z, pz, _⟩ := kitB_of I2 ry ty
  rw [hop]
  exact PySem.W.cmp_K hr.units0 hF I2.ok.mod.kin J (Z.ty _ _ I2.kIn pz) nf O.at_ O.fn (thn (run_callS (us := [.ref a1, u]) (vs := [.ref a1, y]) F hr hb (hx σ) I2 (.cons rfl (.cons ry .nil)) q) fun u s h => back_of h)
theorem pt_owncmp {op : CmpOp} (O : OwnOp X.K C f (cmpInfo op).2.1) (hop : ∀ v u, compareOp op v u = richCompare op v u) (F : FnG X.prog X.w X.K X.mg X.base CX k f fd ps sp) (hr : RmG k X.A) (hb : Binds X.K fd ps []) (hx : ∀ σ, PassesAt CX X σ (E σ)) (ha : PE X a ta) (hb' : PE X b tb) (hm : behindInMarks op b = false) :
    PT X (.Compare a [op] [b] pos) (tB (tOwn C (fun y H => ∃ t, TyB X.K H y t ∧ PySem.W.notFirst X.K C t = true) sp E ta tb)) := by
  refine ⟨fun pins s σ H Q I h => ?_⟩
  refine wpAny_isTrue_Compare1 (bin ha hb' I h fun v u s2 x y H2 I2 rx ry q => ?_) hm
  obtain ⟨a1, dx, fs, rfl, h1, ⟨t, ty, nf⟩, q⟩ := q
  cases rx
  obtain ⟨mA, J, _⟩ := ins_get I2.hok h1
  obtain ⟨od, J, _⟩ := J.look
  obtain ⟨mm, hF⟩ := I2.fr
  obtain ⟨Pz, Z, pz, _⟩ := kitB_of I2 ry ty
  rw [hop]
  refine thn (PySem.W.cmp_K hr.units0 hF I2.ok.mod.kin J (Z.ty _ _ I2.kIn pz) nf O.at_ O.fn (thn (run_callS (us := [.ref a1, u]) (vs := [.ref a1, y]) F hr hb (hx σ) I2 (.cons rfl (.cons ry .nil)) q) fun u s h => back_of h)) fun c s3 ⟨x, H3, I3, r3, q3⟩ => ?_
  obtain ⟨d, rfl, q4⟩ := q3
  cases r3
  exact wpAny_truthy_bool ⟨H3, I3, q4⟩
end
end B

set_option Elab.async false
set_option linter.all false
set_option maxRecDepth 100000
set_option maxHeartbeats 4000000
/-! B8: own classes by content -/
namespace B
open PySem L2

section
variable {K : PySem.W.Frag} {N : Nm} {W : WX} {H R H' R' H0 R0 : Hp} {ρ ρ' ρ0 : Env} {σ : St}
def makeV (c : Nat) (ms : List Bool) (F : Fn) (xs : List EV) : M EV := bnd (pass1 ms xs) fun ys ρ => match slsOf ρ ys with
  | none => .no
  | some as => if (ys.filterMap vrIx).Nodup then (match F (.oi c [] :: as) with
    | .ok (.fz (.at .non)) (some s :: ρa) => if s.own then .ok (.nw s) (back ys ρa ρ) else .no
    | .ex e (_ :: ρa) => .ex e (back ys ρa ρ)
    | _ => .no) else .no
theorem makeV_ok {c : Nat} {ms : List Bool} {F : Fn} {xs : List EV} {vs : List V} {Q : V → Hp → Prop} (B : Stp H0 R0 ρ0 σ H R ρ σ) (r : SR K N H R ρ σ) (ev : EvsR K N H0 H R ρ σ xs vs) (h : Pst K N (EvR K N) W (makeV c ms F xs ρ) σ H0 R0 ρ0 Q)
    (x dx : Addr) (nx : H x = none) (ndx : H dx = none) (ne : dx ≠ x) : spB K N (ms.length + 1) F (.ref x :: vs) (upd (upd H dx (.own x)) x (.ins (N.cl c) dx [])) (fun v H2 => v = .non ∧ Q (.ref x) H2) (fun c d H' => W c d σ H') := by
  unfold makeV at h
  rcases pass1_ok (ms := ms) B r ev with e | ⟨ys, ρ1, R1, e, B1, r1, ev1, hl, _, _, _⟩
  · simp only [bnd, e] at h
    exact h.elim
  · simp only [bnd, e] at h
    cases e1 : slsOf ρ1 ys with
    | none => rw [e1] at h; exact h.elim
    | some as =>
      rw [e1] at h
      dsimp only at h
      by_cases nd : (ys.filterMap vrIx).Nodup
      · rw [if_pos nd] at h
        -- the heap with the new instance
        have g1 : Gr H R1 (upd H dx (.own x)) R1 := Gr.new_ r1.sub ndx
        have nx' : (upd H dx (.own x)) x = none := by rw [upd_ne (Ne.symm ne)]; exact nx
        have g2 : Gr (upd H dx (.own x)) R1 (upd (upd H dx (.own x)) x (.ins (N.cl c) dx [])) R1 := Gr.new_ g1.rh nx'
        have st : Stp H R1 ρ1 σ (upd (upd H dx (.own x)) x (.ins (N.cl c) dx [])) R1 ρ1 σ := g1.stp.trans g2.stp
        have r2 : SR K N (upd (upd H dx (.own x)) x (.ins (N.cl c) dx [])) R1 ρ1 σ := g2.sr (g1.sr r1)
        have hd : Handed K N H0 R0 ρ0 σ (upd (upd H dx (.own x)) x (.ins (N.cl c) dx [])) R1 ρ1 (.nw (.oi c []) :: ys) (.ref x :: vs) (.oi c [] :: as) := by
          refine ⟨B1.trans st, r2, ⟨congrArg Nat.succ ev1.1, fun i y u e3 e4 => ?_, fun i j y z a e3 e4 e5 e6 => ?_⟩, by simp [slsOf, slOf, e1], by simpa [List.filterMap_cons, vrIx] using nd⟩
          · cases i with
            | zero =>
              simp at e3 e4; subst e3 e4
              exact ⟨rfl, ⟨x, dx, [], rfl, upd_same, .nil, rnone_of r1.sub nx⟩, x, rfl, r1.not_own nx, B1.live x nx⟩
            | succ i => exact (ev1.2.1 i y u (by simpa using e3) (by simpa using e4)).mono st
          · have far : ∀ (j : Nat) t a, ys[j]? = some (.nw t) → vs[j]? = some (.ref a) → a ≠ x := fun j t a q1 q2 z => by
              subst z
              obtain ⟨ho, w1, b, w2, _, _⟩ := ev1.2.1 j _ _ q1 q2
              cases w2
              obtain ⟨d, o, w3, w4, _⟩ := w1.there ho
              cases w3
              rw [nx] at w4; cases w4
            cases i with
            | zero =>
              cases j with
              | zero => rfl
              | succ j =>
                simp at e5; subst e5
                exact absurd rfl (far j z _ (by simpa using e4) (by simpa using e6))
            | succ i =>
              cases j with
              | zero =>
                simp at e6; subst e6
                exact absurd rfl (far i y _ (by simpa using e3) (by simpa using e5))
              | succ j => exact congrArg Nat.succ (ev1.2.2 i j y z a (by simpa using e3) (by simpa using e4) (by simpa using e5) (by simpa using e6))
        refine ⟨by simp [hl], _, R1, hd.sr, ?_⟩
        cases e2 : F (.oi c [] :: as) with
        | no => rw [e2] at h; exact h.elim
        | ex x' ρa =>
          rw [e2] at h
          cases ρa with
          | nil => exact h.elim
          | cons o ρa =>
            intro cc d H' R' s' r' x''
            obtain ⟨b1, b2, _⟩ := hd.back s' r'
            exact h cc d H' R' b1 b2 x''
        | ok x' ρa =>
          rw [e2] at h
          intro v H' R' s' r' x''
          obtain ⟨b1, b2, b3⟩ := hd.back s' r'
          cases x' with
          | vr j => exact h.elim
          | nw s => exact h.elim
          | fz p =>
            cases p with
            | «at» w =>
              cases w with
              | non =>
                cases ρa with
                | nil => exact h.elim
                | cons o ρa =>
                  cases o with
                  | none => exact h.elim
                  | some s =>
                    dsimp only at h
                    by_cases ho : s.own = true
                    · rw [if_pos ho] at h
                      cases (show Rep K N R' (.at .non) v from x'')
                      refine ⟨rfl, ?_⟩
                      obtain ⟨u, q1, q2⟩ := r'.at_ 0 s rfl
                      simp at q1; subst q1
                      refine h (.ref x) H' R' b1 b2 ⟨ho, q2, x, rfl, fun w => ?_, B1.live x nx⟩
                      rcases b3 x w with ⟨i, k, y, z1, z2, z3, z4⟩ | z
                      · have := r'.sep 0 i s y x rfl z2 ho z3 (by simp) z4
                        subst this
                        simp at z1
                      · obtain ⟨oo, z5, _⟩ := r1.own_there z
                        rw [nx] at z5; cases z5
                    · rw [if_neg ho] at h; exact h.elim
              | _ => exact h.elim
            | _ => exact h.elim
      · rw [if_neg nd] at h
        exact h.elim
/-- it is an instance of class c -/
def chkI (c : Nat) (x : EV) : M Unit := bnd (deref x) fun p => match p with
  | .ins c' _ => if c' = c then pur () else no
  | _ => no
theorem chkI_use {c : Nat} {x : EV} {v : V} {γ δ : Type} {VR' : Hp → Hp → Hp → Env → St → γ → δ → Prop} {k : Unit → M γ} {Q' : δ → Hp → Prop} {C : Prop} (h : Pst K N VR' W (bnd (chkI c x) k ρ) σ H0 R0 ρ0 Q') (r : SR K N H R ρ σ) {Ha : Hp} (ex : EvR K N Ha H R ρ σ x v)
    (hk : ∀ a dx fs gs, v = .ref a → H a = some (.ins (N.cl c) dx gs) → RepF K N R fs gs → Pst K N VR' W (k () ρ) σ H0 R0 ρ0 Q' → C) : C := by
  unfold chkI at h
  rcases deref_ok r ex with ⟨p, e1, d1⟩ | e1
  · simp only [bnd, e1] at h
    cases p with
    | ins c' fs =>
      dsimp only at h
      by_cases hc : c' = c
      · subst hc
        rw [if_pos rfl] at h
        obtain ⟨a, dx, gs, h1, h2, h3⟩ := d1
        exact hk a dx fs gs h1 h2 h3 h
      · rw [if_neg hc] at h; exact h.elim
    | _ => exact h.elim
  · simp only [bnd, e1] at h
    exact h.elim
/-- it is an int -/
def chkN (x : EV) : M Unit := fun ρ => match x with
  | .fz (.at (.int _)) => .ok () ρ
  | _ => .no
/-- it is of one of these kinds -/
def chkK (t : Kd → Bool) (x : EV) : M Unit := bnd (deref x) fun p => if t p.kd then pur () else no
/-- what raises is not let through -/
def noex (F : Fn) : Fn := fun as => match F as with
  | .ex _ _ => .no
  | r => r
theorem spB_noex {n : Nat} {F : Fn} {vs : List V} {Q : VK} {E E' : XK} (h : spB K N n (noex F) vs H Q E) : spB K N n F vs H Q E' := by
  obtain ⟨hl, as, R, r, h⟩ := h
  refine ⟨hl, as, R, r, ?_⟩
  unfold noex at h
  cases e : F as with
  | no => rw [e] at h; exact h.elim
  | ex x ρ => rw [e] at h; exact h.elim
  | ok x ρ => rw [e] at h; exact h
end

section
variable {X : Cx} {N : Nm} {W : WX} {a b e o fe : Expr} {es : List Expr} {pos p apos : Pos} {f g : M EV} {fs : M (List EV)} {x m : Str} {k : Nat} {fa : Addr} {fd : FuncData} {ps : List Str} {F : Fn}
/-- C(e, ..) -/
theorem be_make (tk : Takes X W) (c : Nat) (ms : List Bool) (Mk : Mk X.K (N.cl c) fa) (G : FnG X.prog X.w X.K X.mg X.base (L2.CX X.prog X.w) k fa fd ps (spB X.K N (ms.length + 1) F)) (hr : RmG (k + 1) X.A) (hg : Gl X x) (hm : X.mg x = some (.ref (N.cl c))) (hb : Binds X.K fd ps [])
    (ha : BA X N W (e :: es) fs) (hdb : (x == ("__debug__" : Str)) = false := by decide) (he : starEach (e :: es) X.env = (false, eval e X.env) :: starEach es X.env := by rfl) (hpl : (backTo pos (starEach es X.env)).any (·.1) = false := by rfl) :
    BE X N W (.Call (.Name x p) (e :: es) [] pos) (bnd fs fun xs => makeV c ms F xs) :=
  pe_weak (pe_makeS (E := fun σ => WE W σ) Mk G hr hg hm hb (fun σ => passAt tk σ) ha hdb he hpl) fun σ H Q ⟨ρ, R, r, h⟩ => ⟨ρ, R, r, Pst.bnd' .refl h fun xs ρ1 vs H1 R1 s1 _ r1 e1 h1 => fun x dx nx ndx ne => makeV_ok s1 r1 e1 h1 x dx nx ndx ne⟩
/-- o.m(e, ..) -/
theorem be_meth {pl : Sem Bool} (tk : Takes X W) (c : Nat) (ms : List Bool) (ha0 : BE X N W o f) (hc : Cls X.K (N.cl c)) (hm : Meth X.K (N.cl c) m fa) (hnf : ∀ i, N.fl i ≠ m) (G : FnG X.prog X.w X.K X.mg X.base (L2.CX X.prog X.w) k fa fd ps (spB X.K N ms.length F)) (hr : RmG k X.A) (hb : Binds X.K fd ps [])
    (ha : BA X N W (e :: es) fs) (hst : starEach (e :: es) X.env = (false, eval e X.env) :: starEach es X.env := by rfl) (hpl : (backTo pos (starEach es X.env)).any (·.1) = false := by rfl)
    (ht : eval (.Call (.Attribute o m apos) (e :: es) [] pos) X.env = (do
      let ov ← eval o X.env
      standAt apos.atName
      let (f, first) ← holding [ov] (getMethod ov m pl)
      callWith pos f first (backTo pos (starEach (e :: es) X.env)) (backToKw pos (keywordEach [] X.env))) := by rfl) :
    BE X N W (.Call (.Attribute o m apos) (e :: es) [] pos) (bnd f fun x => bnd (chkI c x) fun _ => bnd fs fun xs => callV ms F (x :: xs)) :=
  pe_weak (pe_methS (pl := pl) (E := fun σ => WE W σ) ha0 hc hm G hr hb (fun σ => passAt tk σ) ha hst hpl ht) fun σ H Q ⟨ρ, R, r, h⟩ => ⟨ρ, R, r, Pst.bnd' .refl h fun x ρ1 v H1 R1 s1 _ r1 e1 h1 => chkI_use h1 r1 e1 fun i dx fs gs ev h2 h3 h4 => ⟨i, dx, gs, ev, h2, repF_none h3 hnf, ρ1, R1, r1, Pst.bnd' s1 h4 fun xs ρ2 vs H2 R2 s2 s12 r2 e2 h5 =>
    callV_ok s2 r2 (EvsR.cons e1 s12 s1.live e2) h5⟩⟩
/-- o(e, ..), o an instance -/
theorem be_callO (tk : Takes X W) (c : Nat) (ms : List Bool) (hf : BE X N W fe f) (hc : StX.CallO X.K (N.cl c) fa) (G : FnG X.prog X.w X.K X.mg X.base (L2.CX X.prog X.w) k fa fd ps (spB X.K N ms.length F)) (hr : RmG k X.A) (hb : Binds X.K fd ps []) (ha : BA X N W (e :: es) fs)
    (ht : eval (.Call fe (e :: es) [] pos) X.env = (do callWith pos (← eval fe X.env) [] (backTo pos (starEach (e :: es) X.env)) (backToKw pos (keywordEach [] X.env))) := by rfl)
    (he : starEach (e :: es) X.env = (false, eval e X.env) :: starEach es X.env := by rfl) (hpl : (backTo pos (starEach es X.env)).any (·.1) = false := by rfl) :
    BE X N W (.Call fe (e :: es) [] pos) (bnd f fun x => bnd (chkI c x) fun _ => bnd fs fun xs => bnd (chkI c x) fun _ => callV ms F (x :: xs)) :=
  pe_weak (pe_callOS (E := fun σ => WE W σ) hf hc G hr hb (fun σ => passAt tk σ) ha ht he hpl) fun σ H Q ⟨ρ, R, r, h⟩ => ⟨ρ, R, r, Pst.bnd' .refl h fun x ρ1 v H1 R1 s1 _ r1 e1 h1 => chkI_use h1 r1 e1 fun i dx fs gs ev h2 h3 h4 => by
    subst ev
    exact ⟨i, rfl, ρ1, R1, r1, Pst.bnd' s1 h4 fun xs ρ2 vs H2 R2 s2 s12 r2 e2 h5 => chkI_use h5 r2 (e1.mono s12) fun j dy fs' gs' ev' g2 g3 g4 => by
      cases ev'
      exact ⟨⟨dy, gs', g2⟩, callV_ok s2 r2 (EvsR.cons e1 s12 s1.live e2) g4⟩⟩⟩
/-- o.f, a property -/
theorem be_prop {q : Addr} (c : Nat) (ha0 : BE X N W o f) (hc : Cls X.K (N.cl c)) (hp : PropOf X.K (N.cl c) x q fa) (G : FnG X.prog X.w X.K X.mg X.base (L2.CX X.prog X.w) k fa fd ps (spB X.K N 1 F)) (hr : RmG (k + 1) X.A) (hb : Binds X.K fd ps []) (hab : attributeBase o x X.env (eval o X.env) = eval o X.env := by rfl) :
    BE X N W (.Attribute o x pos) (bnd f fun x => bnd (chkI c x) fun _ => callV [false] (noex F) [x]) :=
  pe_weak (pe_propG ha0 hc hp G hr hb (E0 := E0) passL hab) fun σ H Q ⟨ρ, R, r, h⟩ => ⟨ρ, R, r, Pst.bnd' .refl h fun x ρ1 v H1 R1 s1 _ r1 e1 h1 => chkI_use h1 r1 e1 fun i dx fs gs ev h2 h3 h4 => by
    subst ev
    exact ⟨i, dx, gs, rfl, h2, spB_noex (callV_ok (ms := [false]) s1 r1 (EvsR.cons e1 .refl s1.live .nil) h4)⟩⟩
/-- x op y, both of c -/
theorem be_own2 {op : Operator} (tk : Takes X W) (c : Nat) (O : OwnOp X.K (N.cl c) fa (PySem.dunder op.info.2)) (G : FnG X.prog X.w X.K X.mg X.base (L2.CX X.prog X.w) k fa fd ps (spB X.K N 2 F)) (hr : RmG k X.A) (hb : Binds X.K fd ps []) (ha : BE X N W a f) (hb' : BE X N W b g) :
    BE X N W (.BinOp a op b pos) (bnd f fun x => bnd g fun y => bnd (chkI c x) fun _ => bnd (chkI c y) fun _ => callV [false, false] F [x, y]) :=
  pe_weak (pe_own2 (E := fun σ => WE W σ) O G hr hb (fun σ => passAt tk σ) ha hb') fun σ H Q ⟨ρ, R, r, h⟩ => ⟨ρ, R, r, Pst.bnd' .refl h fun x ρ1 v H1 R1 s1 _ r1 e1 h1 => ⟨ρ1, R1, r1, Pst.bnd' s1 h1 fun y ρ2 u H2 R2 s2 s12 r2 e2 h2 =>
    chkI_use h2 r2 (e1.mono s12) fun i dx fs gs ev q2 q3 h3 => chkI_use h3 r2 e2 fun j dy fs' gs' eu q4 q5 h4 => by
      subst ev eu
      exact ⟨i, dx, gs, rfl, q2, ⟨j, dy, gs', rfl, q4⟩, callV_ok (ms := [false, false]) s2 r2 (EvsR.cons e1 s12 s1.live (EvsR.cons e2 .refl (fun _ z => s12.live _ z) .nil)) h4⟩⟩⟩
/-- x op i -/
theorem be_ownI {op : Operator} (tk : Takes X W) (c : Nat) (O : OwnOp X.K (N.cl c) fa (PySem.dunder op.info.2)) (T : OwnOpT X.K (N.cl c) op.info.2 "int") (G : FnG X.prog X.w X.K X.mg X.base (L2.CX X.prog X.w) k fa fd ps (spB X.K N 2 F)) (hr : RmG k X.A) (hb : Binds X.K fd ps []) (ha : BE X N W a f) (hb' : BE X N W b g) :
    BE X N W (.BinOp a op b pos) (bnd f fun x => bnd g fun y => bnd (chkI c x) fun _ => bnd (chkN y) fun _ => callV [false, false] F [x, y]) :=
  pe_weak (pe_ownI (E := fun σ => WE W σ) O T G hr hb (fun σ => passAt tk σ) ha hb') fun σ H Q ⟨ρ, R, r, h⟩ => ⟨ρ, R, r, Pst.bnd' .refl h fun x ρ1 v H1 R1 s1 _ r1 e1 h1 => ⟨ρ1, R1, r1, Pst.bnd' s1 h1 fun y ρ2 u H2 R2 s2 s12 r2 e2 h2 =>
    chkI_use h2 r2 (e1.mono s12) fun i dx fs gs ev q2 q3 h3 => by
      subst ev
      unfold chkN bnd at h3
      cases y with
      | fz q =>
        cases q with
        | «at» w =>
          cases w with
          | int j =>
            cases (show Rep X.K N R2 (.at (.int j)) u from e2)
            exact ⟨i, dx, gs, rfl, q2, ⟨j, rfl⟩, callV_ok (ms := [false, false]) s2 r2 (EvsR.cons e1 s12 s1.live (EvsR.cons e2 .refl (fun _ z => s12.live _ z) .nil)) h3⟩
          | _ => exact h3.elim
        | _ => exact h3.elim
      | _ => exact h3.elim⟩⟩
/-- x == y by an own __eq__ -/
def CmpF (K : PySem.W.Frag) (N : Nm) (C : Addr) (t : Kd → Bool) : Prop := ∀ k, t k = true → k ≠ .oth ∧ (∀ c, k = .own c → InstF K (N.cl c)) ∧ (∀ c, k = .exc c → ExcC K (N.cl c)) ∧ PySem.W.notFirst K C (k.ty N) = true
theorem be_owncmp {op : CmpOp} {t : Kd → Bool} (tk : Takes X W) (c : Nat) (O : OwnOp X.K (N.cl c) fa (cmpInfo op).2.1) (hop : ∀ v u, compareOp op v u = richCompare op v u) (T : CmpF X.K N (N.cl c) t) (G : FnG X.prog X.w X.K X.mg X.base (L2.CX X.prog X.w) k fa fd ps (spB X.K N 2 F)) (hr : RmG k X.A) (hb : Binds X.K fd ps []) (ha : BE X N W a f) (hb' : BE X N W b g) (hm : behindInMarks op b = false) :
    BE X N W (.Compare a [op] [b] pos) (bnd f fun x => bnd g fun y => bnd (chkI c x) fun _ => bnd (chkK t y) fun _ => callV [false, false] F [x, y]) :=
  pe_weak (pe_owncmp (E := fun σ => WE W σ) O hop G hr hb (fun σ => passAt tk σ) ha hb' hm) fun σ H Q ⟨ρ, R, r, h⟩ => ⟨ρ, R, r, Pst.bnd' .refl h fun x ρ1 v H1 R1 s1 _ r1 e1 h1 => ⟨ρ1, R1, r1, Pst.bnd' s1 h1 fun y ρ2 u H2 R2 s2 s12 r2 e2 h2 =>
    chkI_use h2 r2 (e1.mono s12) fun i dx fs gs ev q2 q3 h3 => by
      subst ev
      unfold chkK at h3
      rcases deref_ok r2 e2 with ⟨q, eq, d⟩ | eq
      · simp only [bnd, eq] at h3
        by_cases ht : t q.kd = true
        · rw [if_pos ht] at h3
          obtain ⟨t1, t2, t4, t3⟩ := T _ ht
          exact ⟨i, dx, gs, rfl, q2, ⟨_, tyx_of d r2.sub t1 t2 t4, t3⟩, callV_ok (ms := [false, false]) s2 r2 (EvsR.cons e1 s12 s1.live (EvsR.cons e2 .refl (fun _ z => s12.live _ z) .nil)) h3⟩
        · rw [if_neg ht] at h3; exact h3.elim
      · simp only [bnd, eq] at h3
        exact h3.elim⟩⟩
theorem callV_useB {K : PySem.W.Frag} {H R H0 R0 : Hp} {ρ ρ0 : Env} {σ : St} {ms : List Bool} {F : Fn} {xs : List EV} {vs : List V} {Q : Bool → Hp → Prop} (B : Stp H0 R0 ρ0 σ H R ρ σ) (r : SR K N H R ρ σ) (ev : EvsR K N H0 H R ρ σ xs vs) (h : Pst K N BoR W (bnd (callV ms F xs) toB ρ) σ H0 R0 ρ0 Q) :
    spB K N ms.length F vs H (fun v H' => ∃ d, v = .bl d ∧ Q d H') (fun c d H' => W c d σ H') := by
  refine callV_ok B r ev ?_
  cases e : callV ms F xs ρ with
  | no => simp only [bnd, e] at h; exact h.elim
  | ex x ρ' => simp only [bnd, e] at h; exact h
  | ok x ρ' =>
    simp only [bnd, e] at h
    intro v H' R' s' r' ev'
    have h4 : Pst K N BoR W (bnd (toB x) pur ρ') σ H0 R0 ρ0 Q := by rw [bnd_ret]; exact h
    exact toB_use h4 ev' fun b eb h5 => ⟨b, eb, Pst.giveB h5 s' r'⟩
theorem bt_owncmp {op : CmpOp} {t : Kd → Bool} (tk : Takes X W) (c : Nat) (O : OwnOp X.K (N.cl c) fa (cmpInfo op).2.1) (hop : ∀ v u, compareOp op v u = richCompare op v u) (T : CmpF X.K N (N.cl c) t) (G : FnG X.prog X.w X.K X.mg X.base (L2.CX X.prog X.w) k fa fd ps (spB X.K N 2 F)) (hr : RmG k X.A) (hb : Binds X.K fd ps []) (ha : BE X N W a f) (hb' : BE X N W b g) (hm : behindInMarks op b = false) :
    BT X N W (.Compare a [op] [b] pos) (bnd f fun x => bnd g fun y => bnd (chkI c x) fun _ => bnd (chkK t y) fun _ => bnd (callV [false, false] F [x, y]) toB) :=
  pt_weak (pt_owncmp (E := fun σ => WE W σ) O hop G hr hb (fun σ => passAt tk σ) ha hb' hm) fun σ H Q ⟨ρ, R, r, h⟩ => ⟨ρ, R, r, Pst.bnd' .refl h fun x ρ1 v H1 R1 s1 _ r1 e1 h1 => ⟨ρ1, R1, r1, Pst.bnd' s1 h1 fun y ρ2 u H2 R2 s2 s12 r2 e2 h2 =>
    chkI_use h2 r2 (e1.mono s12) fun i dx fs gs ev q2 q3 h3 => by
      subst ev
      unfold chkK at h3
      rcases deref_ok r2 e2 with ⟨q, eq, d⟩ | eq
      · simp only [bnd, eq] at h3
        by_cases ht : t q.kd = true
        · rw [if_pos ht] at h3
          obtain ⟨t1, t2, t4, t3⟩ := T _ ht
          exact ⟨i, dx, gs, rfl, q2, ⟨_, tyx_of d r2.sub t1 t2 t4, t3⟩, callV_useB (ms := [false, false]) s2 r2 (EvsR.cons e1 s12 s1.live (EvsR.cons e2 .refl (fun _ z => s12.live _ z) .nil)) h3⟩
        · rw [if_neg ht] at h3; exact h3.elim
      · simp only [bnd, eq] at h3
        exact h3.elim⟩⟩
end
end B

set_option Elab.async false
set_option linter.all false
set_option maxRecDepth 100000
set_option maxHeartbeats 4000000
/-! B9: the operators by content, slices, constants, two targets -/
namespace B
open PySem L2

section
variable {K : PySem.W.Frag} {N : Nm} {W : WX} {P : List Nat} {H R H' R' H0 R0 : Hp} {ρ ρ' ρ0 : Env} {σ : St}
/-! ### sizes -/
def mulC (i j : Int) : Bool := decide (i.natAbs.log2 + j.natAbs.log2 + 2 ≤ 134217728)
def divC (i j : Int) : Bool := decide (0 < j) && decide (j.natAbs.log2 < 9000)
def modC (_ j : Int) : Bool := decide (0 < j)
def powC (i j : Int) : Bool := decide (0 ≤ j) && decide (j ≤ 1000000) && decide (i.natAbs < 2 ^ 64)
def sAdd : PV → PV → Option EV := sI fun i j => .int (i + j)
def sSub : PV → PV → Option EV := sI fun i j => .int (i - j)
def sMul : PV → PV → Option EV := sIc mulC fun i j => .int (i * j)
def sDiv : PV → PV → Option EV := sIc divC fun i j => .int (i / j)
def sMod : PV → PV → Option EV := sIc modC fun i j => .int (i % j)
def sPow : PV → PV → Option EV := sIc powC fun i j => .int (i ^ j.toNat)
def sAnd : PV → PV → Option EV := sI fun i j => .int (Builtin.bitAnd i j)
def sLt : PV → PV → Option EV := sI fun i j => .bl (decide (i < j))
def sLe : PV → PV → Option EV := sI fun i j => .bl (decide (i ≤ j))
def sGt : PV → PV → Option EV := sI fun i j => .bl (decide (j < i))
def sGe : PV → PV → Option EV := sI fun i j => .bl (decide (j ≤ i))
theorem mulC_ok {i j : Int} (h : mulC i j = true) : CMulX i j := by
  have h := of_decide_eq_true h
  have b : ∀ x : Int, Builtin.Int.intBits x ≤ x.natAbs.log2 + 1 := fun x => by
    unfold Builtin.Int.intBits
    split <;> omega
  have h1 := b i
  have h2 := b j
  unfold CMulX
  omega
theorem os_mul : OpS K N (rI CMulX fun i j => .int (i * j)) sMul := ops_I fun i j h => mulC_ok h
theorem os_div : OpS K N (rI CDivW fun i j => .int (i / j)) sDiv := ops_I fun i j h => by
  unfold divC at h
  rw [Bool.and_eq_true] at h
  exact ⟨of_decide_eq_true h.1, of_decide_eq_true h.2⟩
theorem os_mod : OpS K N (rI (fun _ j => 0 < j) fun i j => .int (i % j)) sMod := ops_I fun i j h => of_decide_eq_true h
theorem os_pow : OpS K N (rI CPow fun i j => .int (i ^ j.toNat)) sPow := ops_I fun i j h => by
  unfold powC at h
  simp only [Bool.and_eq_true] at h
  exact ⟨of_decide_eq_true h.1.1, of_decide_eq_true h.1.2, of_decide_eq_true h.2⟩
/-! ### equality -/
def sEqA : PV → PV → Option EV
  | .at v, .at u => if scal v u then some (.fz (.bl (decide (v = u)))) else none
  | _, _ => none
def sNeA : PV → PV → Option EV
  | .at v, .at u => if scal v u then some (.fz (.bl (!decide (v = u)))) else none
  | _, _ => none
theorem os_eqA : OpS K N rEq sEqA := fun H R p q e x y Q sb d1 d2 hs k => by
  unfold sEqA at hs
  split at hs
  · split at hs
    · rename_i h
      cases hs
      cases repd_at d1; cases repd_at d2
      exact ⟨h, k _ H R (Gr.refl sb) (.at _)⟩
    · cases hs
  · cases hs
theorem os_neA : OpS K N rNe sNeA := fun H R p q e x y Q sb d1 d2 hs k => by
  unfold sNeA at hs
  split at hs
  · split at hs
    · rename_i h
      cases hs
      cases repd_at d1; cases repd_at d2
      exact ⟨h, k _ H R (Gr.refl sb) (.at _)⟩
    · cases hs
  · cases hs
mutual
def pd : PV → Option PyData
  | .at .non => some .none
  | .at (.bl b) => some (.bool b)
  | .at (.int i) => some (.int i)
  | .at (.str s) => some (.str s)
  | .tup ps => (pds ps).map .tuple
  | .lst ps => (pds ps).map .list
  | _ => none
def pds : List PV → Option (List PyData)
  | [] => some []
  | p :: ps => (pd p).bind fun d => (pds ps).bind fun ds => some (d :: ds)
end
mutual
theorem pd_rep : ∀ {p : PV} {v : V} {d : PyData}, Rep K N R p v → Sub R H → pd p = some d → Dp K H v d
  | .at .non, _, d, h, _, e => by cases h; simp only [pd] at e; cases e; exact .non
  | .at (.bl b), _, d, h, _, e => by cases h; simp only [pd] at e; cases e; exact .bl b
  | .at (.int b), _, d, h, _, e => by cases h; simp only [pd] at e; cases e; exact .int b
  | .at (.str b), _, d, h, _, e => by cases h; simp only [pd] at e; cases e; exact .str b
  | .at (.byt b), _, d, h, _, e => by simp [pd] at e
  | .at (.flt b), _, d, h, _, e => by simp [pd] at e
  | .at (.ref b), _, d, h, _, e => by simp [pd] at e
  | .at (.ty b), _, d, h, _, e => by simp [pd] at e
  | .scr _, _, d, h, _, e => by simp [pd] at e
  | .ins _ _, _, d, h, _, e => by simp [pd] at e
  | .tup ps, _, d, h, sb, e => by
    simp only [pd] at e
    cases e1 : pds ps with
    | none => rw [e1] at e; cases e
    | some ds =>
      rw [e1] at e
      cases e
      cases h with
      | tup h q => exact .tup (sb.tup h) (pds_rep q sb e1)
  | .lst ps, _, d, h, sb, e => by
    simp only [pd] at e
    cases e1 : pds ps with
    | none => rw [e1] at e; cases e
    | some ds =>
      rw [e1] at e
      cases e
      cases h with
      | lst h q => exact .lst (.inl (.inl (sb _ _ h))) (pds_rep q sb e1)
theorem pds_rep : ∀ {ps : List PV} {vs : List V} {ds : List PyData}, Reps K N R ps vs → Sub R H → pds ps = some ds → DpAll K H vs ds
  | [], _, ds, h, _, e => by cases h; simp only [pds] at e; cases e; exact .nil
  | p :: ps, _, ds, h, sb, e => by
    simp only [pds] at e
    cases e1 : pd p with
    | none => rw [e1] at e; cases e
    | some d =>
      cases e2 : pds ps with
      | none => rw [e1, e2] at e; cases e
      | some ds' =>
        rw [e1, e2] at e
        cases e
        cases h with
        | cons h1 h2 => exact .cons (pd_rep h1 sb e1) (pds_rep h2 sb e2)
end
theorem pd_repD {p : PV} {v : V} {d : PyData} (h : RepD K N H R p v) (sb : Sub R H) (e : pd p = some d) : Dp K H v d := by
  cases p with
  | lst ps =>
    obtain ⟨a, vs, rfl, h1, h2⟩ := h
    simp only [pd] at e
    cases e1 : pds ps with
    | none => rw [e1] at e; cases e
    | some ds =>
      rw [e1] at e
      cases e
      exact .lst (.inl (.inl h1)) (pds_rep h2 sb e1)
  | ins c fs => simp [pd] at e
  | exc c f => simp [pd] at e
  | dct ks ps => simp [pd] at e
  | «at» u => exact pd_rep (show Rep K N R _ v from h) sb e
  | tup u => exact pd_rep (show Rep K N R _ v from h) sb e
  | scr u => exact pd_rep (show Rep K N R _ v from h) sb e
def sEqD (p q : PV) : Option EV := match pd p, pd q with
  | some d, some e => if SeqAt.shaped d && SeqAt.shaped e then some (.fz (.bl (PyData.eqv d e))) else none
  | _, _ => none
def sNeD (p q : PV) : Option EV := match pd p, pd q with
  | some d, some e => if SeqAt.shaped d && SeqAt.shaped e then some (.fz (.bl (!PyData.eqv d e))) else none
  | _, _ => none
theorem os_eqD : OpS K N (rEqD K) sEqD := fun H R p q e x y Q sb d1 d2 hs k => by
  unfold sEqD at hs
  split at hs
  · rename_i d e' h1 h2
    split at hs
    · rename_i h
      rw [Bool.and_eq_true] at h
      cases hs
      exact ⟨d, e', pd_repD d1 sb h1, pd_repD d2 sb h2, h.1, h.2, k _ H R (Gr.refl sb) (.at _)⟩
    · cases hs
  · cases hs
theorem os_neD : OpS K N (rNeD K) sNeD := fun H R p q e x y Q sb d1 d2 hs k => by
  unfold sNeD at hs
  split at hs
  · rename_i d e' h1 h2
    split at hs
    · rename_i h
      rw [Bool.and_eq_true] at h
      cases hs
      exact ⟨d, e', pd_repD d1 sb h1, pd_repD d2 sb h2, h.1, h.2, k _ H R (Gr.refl sb) (.at _)⟩
    · cases hs
  · cases hs
def sEq : PV → PV → Option EV := oor sEqA sEqD
def sNe : PV → PV → Option EV := oor sNeA sNeD
theorem os_eq : OpS K N (fun x y H Q => rEq x y H Q ∨ rEqD K x y H Q) sEq := os_eqA.or os_eqD
theorem os_ne : OpS K N (fun x y H Q => rNe x y H Q ∨ rNeD K x y H Q) sNe := os_neA.or os_neD
/-! ### + of lists, tuples, texts; items -/
def sCatL : PV → PV → Option EV
  | .lst xs, .lst ys => if xs.length + ys.length ≤ sizeLine then some (.nw (.ow (xs ++ ys))) else none
  | _, _ => none
theorem os_catL : OpS K N rCat sCatL := fun H R p q e x y Q sb d1 d2 hs k => by
  unfold sCatL at hs
  split at hs
  · split at hs
    · rename_i h
      cases hs
      obtain ⟨a, vs, rfl, h1, h2⟩ := d1
      obtain ⟨b, us, rfl, h3, h4⟩ := d2
      refine ⟨a, b, vs, us, rfl, rfl, h1, h3, by rw [← h2.length, ← h4.length]; exact h, fun p np => ?_⟩
      exact k _ _ _ (Gr.new_ sb np) ⟨rfl, ⟨p, _, rfl, upd_same, h2.append h4, rnone_of sb np⟩, p, rfl, np⟩
    · cases hs
  · cases hs
def sCatS : PV → PV → Option EV
  | .at (.str x), .at (.str y) => if x.length + y.length ≤ sizeLine then some (.fz (.str (x ++ y))) else none
  | _, _ => none
theorem os_catS : OpS K N (fun x y H Q => ∃ i j, x = .str i ∧ y = .str j ∧ i.length + j.length ≤ sizeLine ∧ Q (.str (i ++ j)) H) sCatS := fun H R p q e x y Q sb d1 d2 hs k => by
  unfold sCatS at hs
  split at hs
  · split at hs
    · rename_i h
      cases hs
      cases repd_at d1; cases repd_at d2
      exact ⟨_, _, rfl, rfl, h, k _ H R (Gr.refl sb) (.at _)⟩
    · cases hs
  · cases hs
def sPlus : PV → PV → Option EV := oor sAdd (oor sCatS sCatL)
theorem os_plus : OpS K N (fun x y H Q => rI0 (fun i j => .int (i + j)) x y H Q ∨ ((∃ i j, x = .str i ∧ y = .str j ∧ i.length + j.length ≤ sizeLine ∧ Q (.str (i ++ j)) H) ∨ rCat x y H Q)) sPlus := (ops_I0).or (os_catS.or os_catL)
def sIx : PV → PV → Option EV
  | .lst xs, .at (.int i) => (atI xs i).map .fz
  | .scr xs, .at (.int i) => (atI xs i).map fun n => .fz (.int n)
  | .tup xs, .at (.int i) => (atI xs i).map .fz
  | .at (.str z), .at (.int i) => if z.length ≤ sizeLine then (atI z.cps.toList i).map (fun c => .fz (.str ⟨#[c]⟩)) else none
  | _, _ => none
theorem reps_atI {ps : List PV} {vs : List V} {i : Int} {p : PV} (h : Reps K N R ps vs) (e : atI ps i = some p) : ∃ v, atI vs i = some v ∧ Rep K N R p v := by
  unfold atI at e ⊢
  rw [h.length] at e
  cases e1 : ixN vs.length i with
  | none => rw [e1] at e; cases e
  | some j =>
    rw [e1] at e
    exact h.get e
theorem os_ix : OpS K N (rIx K) sIx := fun H R p q e x y Q sb d1 d2 hs k => by
  unfold sIx at hs
  split at hs
  · rename_i xs i
    cases repd_at d2
    obtain ⟨a, vs, rfl, h1, h2⟩ := d1
    cases e1 : atI xs i with
    | none => rw [e1] at hs; cases hs
    | some z =>
      rw [e1] at hs; cases hs
      obtain ⟨v, g1, g2⟩ := reps_atI h2 e1
      exact .inl ⟨a, vs, i, v, rfl, rfl, .inl (.inl h1), g1, k _ H R (Gr.refl sb) g2⟩
  · rename_i xs i
    cases repd_at d2
    cases (show Rep K N R (.scr xs) x from d1) with
    | scr h =>
      cases e1 : atI xs i with
      | none => rw [e1] at hs; cases hs
      | some z =>
        rw [e1] at hs; cases hs
        have g1 : atI (xs.map V.int) i = some (.int z) := by
          unfold atI at e1 ⊢
          rw [List.length_map]
          cases e2 : ixN xs.length i with
          | none => rw [e2] at e1; cases e1
          | some j =>
            rw [e2] at e1
            show (xs.map V.int)[j]? = _
            rw [List.getElem?_map, show xs[j]? = some z from e1]
            rfl
        exact .inl ⟨_, _, i, _, rfl, rfl, sb.seq h, g1, k _ H R (Gr.refl sb) (.at _)⟩
  · rename_i xs i
    cases repd_at d2
    cases (show Rep K N R (.tup xs) x from d1) with
    | tup h h2 =>
      cases e1 : atI xs i with
      | none => rw [e1] at hs; cases hs
      | some z =>
        rw [e1] at hs; cases hs
        obtain ⟨v, g1, g2⟩ := reps_atI h2 e1
        exact .inr (.inl ⟨_, _, i, v, rfl, rfl, sb.tup h, g1, k _ H R (Gr.refl sb) g2⟩)
  · rename_i z i
    cases repd_at d1; cases repd_at d2
    split at hs
    · rename_i h
      cases e1 : atI z.cps.toList i with
      | none => rw [e1] at hs; cases hs
      | some c =>
        rw [e1] at hs; cases hs
        exact .inr (.inr ⟨z, i, c, rfl, rfl, h, e1, k _ H R (Gr.refl sb) (.at _)⟩)
    · cases hs
  · cases hs
/-! ### slices -/
def cutP {α : Type} (xs : List α) (lo hi : Option Int) : List α := (xs.drop (HT.sIx xs.length 0 lo)).take (HT.sIx xs.length xs.length hi - HT.sIx xs.length 0 lo)
theorem cutP_reps {ps : List PV} {vs : List V} (h : Reps K N R ps vs) (lo hi : Option Int) : Reps K N R (cutP ps lo hi) (cutV vs lo hi) := by
  unfold cutP cutV
  rw [h.length]
  exact (h.drop _).take _
def slV (p : PV) (lo hi : Option Int) : Option EV := match p with
  | .lst xs => some (.nw (.ow (cutP xs lo hi)))
  | .scr ns => some (.nw (.ow (cutP (ns.map PV.int) lo hi)))
  | .at (.str z) => if z.length ≤ sizeLine then some (.fz (.str (cutS z lo hi))) else none
  | _ => none
theorem slV_ok {p : PV} {x : V} {lo hi : Option Int} {e : EV} {Q : VK} (sb : Sub R H) (d : RepD K N H R p x) (hs : slV p lo hi = some e) (k : ∀ v H' R', Gr H R H' R' → NvR K N H H' R' e v → Q v H') : rSlL K x lo hi H Q ∨ rSlS x lo hi H Q := by
  unfold slV at hs
  split at hs
  · rename_i xs
    cases hs
    obtain ⟨a, vs, rfl, h1, h2⟩ := d
    exact .inl ⟨a, vs, rfl, .inl (.inl h1), fun p np => k _ _ _ (Gr.new_ sb np) ⟨rfl, ⟨p, _, rfl, upd_same, cutP_reps h2 lo hi, rnone_of sb np⟩, p, rfl, np⟩⟩
  · rename_i ns
    cases hs
    cases (show Rep K N R (.scr ns) x from d) with
    | scr h => exact .inl ⟨_, _, rfl, sb.seq h, fun p np => k _ _ _ (Gr.new_ sb np) ⟨rfl, ⟨p, _, rfl, upd_same, cutP_reps (Reps.ints ns) lo hi, rnone_of sb np⟩, p, rfl, np⟩⟩
  · rename_i z
    split at hs
    · rename_i h
      cases hs
      cases repd_at d
      exact .inr ⟨z, rfl, h, k _ H R (Gr.refl sb) (.at _)⟩
    · cases hs
  · cases hs
def PaR : Hp → Hp → Hp → Env → St → Option Int → Option Int → Prop := fun _ _ _ _ _ x v => v = x
def tP (K : PySem.W.Frag) (N : Nm) (W : WX) (f : M (Option Int)) : TO := fun σ H Q => ∃ ρ R, SR K N H R ρ σ ∧ Pst K N PaR W (f ρ) σ H R ρ Q
def toI (x : EV) : M (Option Int) := fun ρ => match x with
  | .fz (.at (.int i)) => .ok (some i) ρ
  | _ => .no
end

section
variable {X : Cx} {N : Nm} {W : WX} {P : List Nat} {a b e : Expr} {es : List Expr} {pos p2 : Pos} {f g : M EV} {fl fh : M (Option Int)} {lo hi : Option Expr} {fs : M (List EV)}
abbrev BP (X : Cx) (N : Nm) (W : WX) (e : Option Expr) (f : M (Option Int)) : Prop := PO X e (tP X.K N W f)
theorem po_weak {e : Option Expr} {t t' : TO} (h : PO X e t) (w : ∀ σ H Q, t' σ H Q → t σ H Q) : PO X e t' := ⟨fun pins s σ H Q I q => h.run pins s σ H Q I (w σ H Q q)⟩
theorem bp_none : BP X N W none (pur none) := po_weak po_none fun σ H Q ⟨ρ, R, r, h⟩ => h none H R .refl r rfl
theorem bp_some (ha : BE X N W a f) : BP X N W (some a) (bnd f toI) := po_weak (po_some ha) fun σ H Q ⟨ρ, R, r, h⟩ => ⟨ρ, R, r, Pst.bnd' .refl h fun x ρ1 v H1 R1 s1 _ r1 e1 h1 => by
  unfold toI at h1
  cases x with
  | fz q =>
    cases q with
    | «at» w =>
      cases w with
      | int j =>
        cases (show Rep X.K N R1 (.at (.int j)) v from e1)
        exact ⟨j, rfl, h1 _ H1 R1 s1 r1 rfl⟩
      | _ => exact h1.elim
    | _ => exact h1.elim
  | _ => exact h1.elim⟩
theorem be_slice (ha : BE X N W a f) (hl : BP X N W lo fl) (hh : BP X N W hi fh) : BE X N W (.Subscript a (.Slice lo hi none p2) pos) (bnd f fun x => bnd fl fun l => bnd fh fun h => bnd (deref x) fun p => lift (slV p l h)) :=
  pe_weak (pe_slice (sl_list.or sl_str) ha hl hh) fun σ H Q ⟨ρ, R, r, h⟩ => ⟨ρ, R, r, Pst.bnd' .refl h fun x ρ1 v H1 R1 s1 _ r1 e1 h1 => ⟨ρ1, R1, r1, Pst.bnd' s1 h1 fun l ρ2 l' H2 R2 s2 s12 r2 e2 h2 => ⟨ρ2, R2, r2, Pst.bnd' s2 h2 fun u ρ3 u' H3 R3 s3 s23 r3 e3 h3 => by
    cases (show l' = l from e2)
    cases (show u' = u from e3)
    exact deref_use h3 r3 ((e1.mono s12).mono s23) fun q d h4 => by
      cases e5 : slV q l u with
      | none => rw [e5] at h4; exact h4.elim
      | some z =>
        rw [e5] at h4
        exact slV_ok r3.sub d e5 fun v' H' R' g n => Pst.give h4 s3 r3 g n⟩⟩⟩
/-- a module's constant -/
theorem be_glob {x : Str} {v : V} {u : Value} (hg : Gl X x) (hm : X.mg x = some u) (r : RelV v u) (hd : (x == ("__debug__" : Str)) = false := by decide) : BE X N W (.Name x pos) (pur (.fz (.at v))) := be_c (pe_glob hg hm r hd)
/-- .. a tuple that stands in the written part -/
theorem be_globT {x : Str} {c : Addr} {ps : List PV} (hg : Gl X x) (hm : X.mg x = some (.ref c)) (hT : ∀ R, Rep X.K N R (.tup ps) (.ref c)) (hd : (x == ("__debug__" : Str)) = false := by decide) : BE X N W (.Name x pos) (pur (.fz (.tup ps))) :=
  pe_weak (pe_glob (v := .ref c) hg hm rfl hd) fun σ H Q ⟨ρ, R, r, h⟩ => h (.ref c) H R .refl r (hT R)
/-- a statement that is never reached -/
theorem bs_never {st : Stmt} : BS X N W P st (fun _ => .no) := ps_weak ps_never fun D σ H ⟨ρ, R, r, h⟩ => h
/-- a, b = e1, e2 -/
def parS (o1 o2 : Bool) (i j : Nat) (xs : List EV) : MS := doS (pass1 [o1, o2] xs) fun ys ρ => match ys with
  | [.fz p, .fz q] => .nx ((ρ.set i (some (.fz p))).set j (some (.fz q)))
  | [.nw s, .fz q] => .nx ((ρ.set i (some s)).set j (some (.fz q)))
  | [.fz p, .nw t] => .nx ((ρ.set i (some (.fz p))).set j (some t))
  | [.nw s, .nw t] => .nx ((ρ.set i (some s)).set j (some t))
  | _ => .no
theorem bs_par (o1 o2 : Bool) (i j : Nat) {x y : Str} {px py pt : Pos} {kt k2 pt2} (hc : X.calm = true) (hN : X.N.Nodup) (ha : BA X N W [a, b] fs) (hp : i ∉ P := by decide) (hq : j ∉ P := by decide) (hij : i ≠ j := by decide) (hi : X.N[i]? = some x := by rfl) (hj : X.N[j]? = some y := by rfl)
    (hx : X.env.scope.names.lookup x = some .local := by rfl) (hy : X.env.scope.names.lookup y = some .local := by rfl) (hs : swapsWithSole [.Tuple [.Name x px, .Name y py] kt pt] (.Tuple [a, b] k2 pt2) pos.line X.env = pure false := by rfl)
    (hw : swappedStores [.Tuple [.Name x px, .Name y py] kt pt] (.Tuple [a, b] k2 pt2) X.env = pure (some [x, y]) := by rfl) : BS X N W P (.Assign [.Tuple [.Name x px, .Name y py] kt pt] (.Tuple [a, b] k2 pt2) pos) (doS fs fun xs => parS o1 o2 i j xs) :=
  ps_weak (ps_par hc hN hi hj hij hx hy ha hw hs) fun D σ H ⟨ρ, R, r, h⟩ => ⟨ρ, R, r, PsS.doA h fun xs ρ1 vs H1 R1 s1 r1 e1 h1 => by
    unfold parS at h1
    rcases pass1_ok (ms := [o1, o2]) s1 r1 e1 with e | ⟨ys, ρ2, R2, e, s2, r2, e2, hl, _, _, _⟩
    · simp only [doS, e] at h1
      exact h1.elim
    · simp only [doS, e] at h1
      match ys, e2, h1 with
      | [.fz p, .fz q], e2, h1 =>
        obtain ⟨v, u, rfl, g1, g2⟩ := evs2 e2
        exact ⟨v, u, rfl, h1 _ H1 R2 s2.set.set ((r2.set g1).set g2) ((Prot.set hp).trans (Prot.set hq))⟩
      | [.nw s, .fz q], e2, h1 =>
        obtain ⟨v, u, rfl, ⟨ho, w1, a, rfl, w4, w5⟩, g2⟩ := evs2 e2
        exact ⟨_, u, rfl, h1 _ H1 R2 (s2.setO w5).set ((r2.setO ho w1 w4).set g2) ((Prot.set hp).trans (Prot.set hq))⟩
      | [.fz p, .nw t], e2, h1 =>
        obtain ⟨v, u, rfl, g1, ⟨ho, w1, a, rfl, w4, w5⟩⟩ := evs2 e2
        exact ⟨v, _, rfl, h1 _ H1 R2 (s2.set.setO w5) ((r2.set g1).setO ho w1 fun w => w4 (own_set w)) ((Prot.set hp).trans (Prot.set hq))⟩
      | [.nw s, .nw t], e2, h1 =>
        obtain ⟨v, u, rfl, ⟨ho, w1, a, rfl, w4, w5⟩, ⟨ho', z1, b, rfl, z4, z5⟩⟩ := evs2 e2
        have hab : b ≠ a := fun z => by
          subst z
          have := e2.2.2 0 1 s t b rfl rfl rfl rfl
          omega
        refine ⟨_, _, rfl, h1 _ H1 R2 ((s2.setO w5).setO z5) ((r2.setO ho w1 w4).setO ho' z1 fun w => ?_) ((Prot.set hp).trans (Prot.set hq))⟩
        obtain ⟨k, y, k1, k2, k3⟩ := w
        by_cases hk : k = i
        · subst hk
          have hl : k < (σ.set k (some (V.ref a))).length := (List.getElem?_eq_some_iff.mp k3).1
          rw [List.getElem?_set_self (by simpa using hl)] at k3
          cases k3
          exact hab rfl
        · rw [List.getElem?_set_ne (Ne.symm hk)] at k1 k3
          exact z4 ⟨k, y, k1, k2, k3⟩
      | [], _, h1 => exact h1.elim
      | [z], e2, h1 =>
        have q1 := e2.1
        have q2 : 2 = vs.length := hl
        rw [← q2] at q1
        exact absurd q1 (by simp)
      | [.vr _, _], _, h1 => exact h1.elim
      | [.fz _, .vr _], _, h1 => exact h1.elim
      | [.nw _, .vr _], _, h1 => exact h1.elim
      | _ :: _ :: _ :: _, e2, h1 =>
        have q1 := e2.1
        have q2 : 2 = vs.length := hl
        rw [← q2] at q1
        exact absurd q1 (by simp)⟩
end
end B

set_option Elab.async false
set_option linter.all false
set_option maxRecDepth 100000
set_option maxHeartbeats 4000000
/-! B10: what the generated texts lean on -/
namespace B
open PySem L2
theorem flT_ne {tab : List Str} {m : Str} (h : (tab.all fun s => !decide (s = m)) = true) (hm : m.cps.size < 1000) (i : Nat) : flT tab i ≠ m := fun e => by
  unfold flT at e
  cases e1 : tab[i]? with
  | some s =>
    rw [e1] at e
    simp only at e
    have := List.all_eq_true.mp h s (List.mem_of_getElem? e1)
    simp [e] at this
  | none =>
    rw [e1] at e
    simp only at e
    rw [← e] at hm
    simp at hm
    omega

section
variable (P : Program) (w : World) (K : PySem.W.Frag) (mg : Str → Option Value) (base : Heap) (N : Nm)
/-- a def of the module, and what it is worth -/
structure GF (x : Str) (k n : Nat) (F : Fn) : Prop where
  ex : ∃ (f : Addr) (fd : FuncData) (ps : List Str), FnG P w K mg base (L2.CX P w) k f fd ps (spB K N n F) ∧ mg x = some (.ref f) ∧ PySem.W.keepIn K (.ref f) = true ∧ Binds K fd ps []
/-- a class whose instances are made by an __init__ of n + 1 parameters -/
structure GMk (x : Str) (c k n : Nat) (F : Fn) : Prop where
  ex : ∃ (f : Addr) (fd : FuncData) (ps : List Str), FnG P w K mg base (L2.CX P w) k f fd ps (spB K N (n + 1) F) ∧ mg x = some (.ref (N.cl c)) ∧ Mk K (N.cl c) f ∧ Binds K fd ps []
/-- a method that the module does not see by name: what is known of its place is R -/
structure GM (k n : Nat) (F : Fn) (R : Addr → Prop) : Prop where
  ex : ∃ (f : Addr) (fd : FuncData) (ps : List Str), FnG P w K mg base (L2.CX P w) k f fd ps (spB K N n F) ∧ R f ∧ Binds K fd ps []
/-- a def of the text, where it stands -/
structure GD (x qual : Str) (st : Stmt) (R : Addr → Prop) : Prop where
  ex : ∃ (f : Addr) (fd : FuncData), FnP K x qual st f fd ∧ R f
end
section
variable {X : Cx} {N : Nm} {W : WX} {P : List Nat} {a b e o fe : Expr} {es : List Expr} {pos p apos : Pos} {f g : M EV} {fs : M (List EV)} {x m : Str} {k : Nat} {F : Fn}
theorem be_callG (tk : Takes X W) (ms : List Bool) (G : GF X.prog X.w X.K X.mg X.base N x k ms.length F) (hr : RmG k X.A) (ha : BA X N W (e :: es) fs) (hg : Gl X x := by rfl) (hdb : (x == ("__debug__" : Str)) = false := by decide)
    (he : starEach (e :: es) X.env = (false, eval e X.env) :: starEach es X.env := by rfl) (hpl : (backTo pos (starEach es X.env)).any (·.1) = false := by rfl) : BE X N W (.Call (.Name x p) (e :: es) [] pos) (bnd fs fun xs => callV ms F xs) := by
  obtain ⟨f, fd, ps, G1, G2, G3, G4⟩ := G.ex
  exact be_call tk ms G1 hr hg G2 G3 G4 ha hdb he hpl
theorem be_makeG (tk : Takes X W) (c : Nat) (ms : List Bool) (G : GMk X.prog X.w X.K X.mg X.base N x c k ms.length F) (hr : RmG (k + 1) X.A) (ha : BA X N W (e :: es) fs) (hg : Gl X x := by rfl) (hdb : (x == ("__debug__" : Str)) = false := by decide)
    (he : starEach (e :: es) X.env = (false, eval e X.env) :: starEach es X.env := by rfl) (hpl : (backTo pos (starEach es X.env)).any (·.1) = false := by rfl) : BE X N W (.Call (.Name x p) (e :: es) [] pos) (bnd fs fun xs => makeV c ms F xs) := by
  obtain ⟨f, fd, ps, G1, G2, G3, G4⟩ := G.ex
  exact be_make tk c ms G3 G1 hr hg G2 G4 ha hdb he hpl
theorem be_callOG (tk : Takes X W) (c : Nat) (ms : List Bool) (G : GM X.prog X.w X.K X.mg X.base N k ms.length F (fun q => StX.CallO X.K (N.cl c) q)) (hr : RmG k X.A) (hf : BE X N W fe f) (ha : BA X N W (e :: es) fs)
    (ht : eval (.Call fe (e :: es) [] pos) X.env = (do callWith pos (← eval fe X.env) [] (backTo pos (starEach (e :: es) X.env)) (backToKw pos (keywordEach [] X.env))) := by rfl)
    (he : starEach (e :: es) X.env = (false, eval e X.env) :: starEach es X.env := by rfl) (hpl : (backTo pos (starEach es X.env)).any (·.1) = false := by rfl) :
    BE X N W (.Call fe (e :: es) [] pos) (bnd f fun x => bnd (chkI c x) fun _ => bnd fs fun xs => bnd (chkI c x) fun _ => callV ms F (x :: xs)) := by
  obtain ⟨q, fd, ps, G1, G2, G4⟩ := G.ex
  exact be_callO tk c ms hf G2 G1 hr G4 ha ht he hpl
theorem be_methG {pl : Sem Bool} (tk : Takes X W) (c : Nat) (ms : List Bool) (G : GM X.prog X.w X.K X.mg X.base N k ms.length F (fun q => Cls X.K (N.cl c) ∧ Meth X.K (N.cl c) m q)) (hr : RmG k X.A) (hnf : ∀ i, N.fl i ≠ m) (ha0 : BE X N W o f) (ha : BA X N W (e :: es) fs)
    (hst : starEach (e :: es) X.env = (false, eval e X.env) :: starEach es X.env := by rfl) (hpl : (backTo pos (starEach es X.env)).any (·.1) = false := by rfl)
    (ht : eval (.Call (.Attribute o m apos) (e :: es) [] pos) X.env = (do
      let ov ← eval o X.env
      standAt apos.atName
      let (f, first) ← holding [ov] (getMethod ov m pl)
      callWith pos f first (backTo pos (starEach (e :: es) X.env)) (backToKw pos (keywordEach [] X.env))) := by rfl) :
    BE X N W (.Call (.Attribute o m apos) (e :: es) [] pos) (bnd f fun x => bnd (chkI c x) fun _ => bnd fs fun xs => callV ms F (x :: xs)) := by
  obtain ⟨q, fd, ps, G1, ⟨G2, G3⟩, G4⟩ := G.ex
  exact be_meth (pl := pl) tk c ms ha0 G2 G3 hnf G1 hr G4 ha hst hpl ht
theorem be_propG (c : Nat) (G : GM X.prog X.w X.K X.mg X.base N k 1 F (fun q => Cls X.K (N.cl c) ∧ ∃ r, PropOf X.K (N.cl c) x r q)) (hr : RmG (k + 1) X.A) (ha0 : BE X N W o f) (hab : attributeBase o x X.env (eval o X.env) = eval o X.env := by rfl) :
    BE X N W (.Attribute o x pos) (bnd f fun x => bnd (chkI c x) fun _ => callV [false] (noex F) [x]) := by
  obtain ⟨q, fd, ps, G1, ⟨G2, r, G3⟩, G4⟩ := G.ex
  exact be_prop c ha0 G2 G3 G1 hr G4 hab
theorem be_own2G {op : Operator} (tk : Takes X W) (c : Nat) (G : GM X.prog X.w X.K X.mg X.base N k 2 F (fun q => OwnOp X.K (N.cl c) q (PySem.dunder op.info.2))) (hr : RmG k X.A) (ha : BE X N W a f) (hb' : BE X N W b g) :
    BE X N W (.BinOp a op b pos) (bnd f fun x => bnd g fun y => bnd (chkI c x) fun _ => bnd (chkI c y) fun _ => callV [false, false] F [x, y]) := by
  obtain ⟨q, fd, ps, G1, G2, G4⟩ := G.ex
  exact be_own2 tk c G2 G1 hr G4 ha hb'
theorem be_ownIG {op : Operator} (tk : Takes X W) (c : Nat) (G : GM X.prog X.w X.K X.mg X.base N k 2 F (fun q => OwnOp X.K (N.cl c) q (PySem.dunder op.info.2))) (T : OwnOpT X.K (N.cl c) op.info.2 "int") (hr : RmG k X.A) (ha : BE X N W a f) (hb' : BE X N W b g) :
    BE X N W (.BinOp a op b pos) (bnd f fun x => bnd g fun y => bnd (chkI c x) fun _ => bnd (chkN y) fun _ => callV [false, false] F [x, y]) := by
  obtain ⟨q, fd, ps, G1, G2, G4⟩ := G.ex
  exact be_ownI tk c G2 T G1 hr G4 ha hb'
theorem be_eqG {t : Kd → Bool} (tk : Takes X W) (c : Nat) (G : GM X.prog X.w X.K X.mg X.base N k 2 F (fun q => OwnOp X.K (N.cl c) q "__eq__")) (T : CmpF X.K N (N.cl c) t) (hr : RmG k X.A) (ha : BE X N W a f) (hb' : BE X N W b g) :
    BE X N W (.Compare a [.Eq] [b] pos) (bnd f fun x => bnd g fun y => bnd (chkI c x) fun _ => bnd (chkK t y) fun _ => callV [false, false] F [x, y]) := by
  obtain ⟨q, fd, ps, G1, G2, G4⟩ := G.ex
  exact be_owncmp tk c G2 (fun _ _ => rfl) T G1 hr G4 ha hb' (nomark _)
theorem bt_eqG {t : Kd → Bool} (tk : Takes X W) (c : Nat) (G : GM X.prog X.w X.K X.mg X.base N k 2 F (fun q => OwnOp X.K (N.cl c) q "__eq__")) (T : CmpF X.K N (N.cl c) t) (hr : RmG k X.A) (ha : BE X N W a f) (hb' : BE X N W b g) :
    BT X N W (.Compare a [.Eq] [b] pos) (bnd f fun x => bnd g fun y => bnd (chkI c x) fun _ => bnd (chkK t y) fun _ => bnd (callV [false, false] F [x, y]) toB) := by
  obtain ⟨q, fd, ps, G1, G2, G4⟩ := G.ex
  exact bt_owncmp tk c G2 (fun _ _ => rfl) T G1 hr G4 ha hb' (nomark _)
/-- a module's int -/
theorem be_globI {i : Int} (h : ∃ t, X.mg x = some (.int i t)) (hg : Gl X x := by rfl) (hd : (x == ("__debug__" : Str)) = false := by decide) : BE X N W (.Name x pos) (pur (.fz (.at (.int i)))) := by
  obtain ⟨t, h⟩ := h
  exact be_glob hg h ⟨t, rfl⟩ hd
theorem be_globP {ps : List PV} (h : ∃ c, X.mg x = some (.ref c) ∧ ∀ R, Rep X.K N R (.tup ps) (.ref c)) (hg : Gl X x := by rfl) (hd : (x == ("__debug__" : Str)) = false := by decide) : BE X N W (.Name x pos) (pur (.fz (.tup ps))) := by
  obtain ⟨c, h1, h2⟩ := h
  exact be_globT hg h1 h2 hd
end
section
variable {Pg : Program} {w : World} {K : PySem.W.Frag} {mg : Str → Option Value} {base : Heap} {N : Nm}
/-- a def's body, and what the module gets of it -/
theorem gf_mk {x : Str} {st : Stmt} {Nn ps : List Str} {k : Nat} {P : List Nat} {g : MS} (D : GD K x x st (fun f => mg x = some (.ref f))) (S : FnScope Nn ps (defScope st))
    (hb : ∀ (kV doc pm : Value) (an : Option Addr) (cdv ct : Value) (us : List Value), us.length = ps.length → bindArgs (PySem.W.fnOf x x (defArgs st) (defBody st) (defScope st) .none kV doc pm an cdv ct) ⟨us, []⟩ = pure (ps.zip us))
    (body : ∀ (f : Addr) (cdv : Value) (A : Around) (outer : List PySem.Env) (s : Shared) (H : Hp) (E : XK), RmG k (A.deeper (PyProof.Rows.envOfC x (defScope st) s.heap.objs.size f cdv)) →
      Takes (cxOf (L2.CX Pg w) Pg w K mg base Nn x (defScope st) f cdv A outer s H E) (fun c d _ H' => E c d H') → PassesOwn (model Pg w) (A.deeper (PyProof.Rows.envOfC x (defScope st) s.heap.objs.size f cdv)) (PyProof.Rows.envOfC x (defScope st) s.heap.objs.size f cdv) (cxOf (L2.CX Pg w) Pg w K mg base Nn x (defScope st) f cdv A outer s H E).xe →
      BSs (cxOf (L2.CX Pg w) Pg w K mg base Nn x (defScope st) f cdv A outer s H E) N (fun c d _ H' => E c d H') P (defBody st) g) : GF Pg w K mg base N x (k + 1) ps.length (fnB ps.length Nn.length P g) := by
  obtain ⟨f, fd, F, hm⟩ := D.ex
  exact ⟨⟨f, fd, ps, fn_okB F S rfl (body f), hm, F.kp, F.bindsN hb⟩⟩
theorem gm_mk {x qual : Str} {st : Stmt} {Nn ps : List Str} {k : Nat} {P : List Nat} {g : MS} {R : Addr → Prop} (D : GD K x qual st R) (S : FnScope Nn ps (defScope st))
    (hb : ∀ (kV doc pm : Value) (an : Option Addr) (cdv ct : Value) (us : List Value), us.length = ps.length → bindArgs (PySem.W.fnOf x qual (defArgs st) (defBody st) (defScope st) .none kV doc pm an cdv ct) ⟨us, []⟩ = pure (ps.zip us))
    (body : ∀ (f : Addr) (cdv : Value) (A : Around) (outer : List PySem.Env) (s : Shared) (H : Hp) (E : XK), RmG k (A.deeper (PyProof.Rows.envOfC qual (defScope st) s.heap.objs.size f cdv)) →
      Takes (cxOf (L2.CX Pg w) Pg w K mg base Nn qual (defScope st) f cdv A outer s H E) (fun c d _ H' => E c d H') → PassesOwn (model Pg w) (A.deeper (PyProof.Rows.envOfC qual (defScope st) s.heap.objs.size f cdv)) (PyProof.Rows.envOfC qual (defScope st) s.heap.objs.size f cdv) (cxOf (L2.CX Pg w) Pg w K mg base Nn qual (defScope st) f cdv A outer s H E).xe →
      BSs (cxOf (L2.CX Pg w) Pg w K mg base Nn qual (defScope st) f cdv A outer s H E) N (fun c d _ H' => E c d H') P (defBody st) g) : GM Pg w K mg base N (k + 1) ps.length (fnB ps.length Nn.length P g) R := by
  obtain ⟨f, fd, F, hm⟩ := D.ex
  exact ⟨⟨f, fd, ps, fn_okB F S rfl (body f), hm, F.bindsN hb⟩⟩
end
/-- max, min of two ints -/
def sMax : List PV → Option EV := s2I fun i j => .int (if j > i then j else i)
def sMin : List PV → Option EV := s2I fun i j => .int (if j < i then j else i)
end B

set_option Elab.async false
set_option linter.all false
set_option maxRecDepth 100000
set_option maxHeartbeats 4000000
/-! B11: the head: what the top leaves, read by truth values over the written part -/
namespace B
open PySem L2
section
variable {ex : List (PySem.W.Frag → Bool)} {fn : List DefA} {K : PySem.W.Frag} {h : Heap} {mg : Str → Option Value}
theorem SaysY.fact (c : SaysY ex fn K) (i : Nat) {f : PySem.W.Frag → Bool} (h : ex[i]? = some f := by rfl) : f K = true := by
  have c1 := (He.ba (show ((ex.all fun f => f K) && fn.all fun d => d.ok K) = true from congrArg (fun z : He.AlD => z.1) c)).1
  exact List.all_eq_true.mp c1 f (List.mem_of_getElem? h)
theorem SaysY.def_ (c : SaysY ex fn K) (i : Nat) {d : DefA} (h : fn[i]? = some d := by rfl) : ∃ fd, L2.FunD K d.name d.qual d.params d.body d.scope (d.dvs K) (d.kws K) (d.at_ K) fd := by
  have c2 := (He.ba (show ((ex.all fun f => f K) && fn.all fun d => d.ok K) = true from congrArg (fun z : He.AlD => z.1) c)).2
  have e : fn.map (fun d => He5.fnA K (d.at_ K)) = fn.map He5.DefA.val := congrArg (fun z : He.AlD => z.2) c
  have e2 : (fn.map fun d => He5.fnA K (d.at_ K))[i]? = (fn.map He5.DefA.val)[i]? := by rw [e]
  rw [List.getElem?_map, List.getElem?_map, h] at e2
  exact He5.DefA.funD (Option.some.inj e2) (List.all_eq_true.mp c2 d (List.mem_of_getElem? h))
/-! ### facts -/
theorem inst_ok {x : Str} (c : fInst x K = true) : InstF K (He.ga K x) := by
  obtain ⟨c1, c⟩ := He.ba c
  obtain ⟨c2, c⟩ := He.ba c
  obtain ⟨c3, c⟩ := He.ba c
  obtain ⟨c4, c5⟩ := He.ba c
  exact ⟨He.cls_ok c1, He.eqO_ok c2, He.eqO_ok c3, of_decide_eq_true c4, of_decide_eq_true c5⟩
theorem excC_ok {x : Str} (c : fExcC x K = true) : ExcC K (He.ga K x) := by
  obtain ⟨c1, c⟩ := He.ba c
  obtain ⟨c2, c⟩ := He.ba c
  obtain ⟨c3, c⟩ := He.ba c
  obtain ⟨c4, c⟩ := He.ba c
  obtain ⟨c5, c⟩ := He.ba c
  obtain ⟨c6, c⟩ := He.ba c
  obtain ⟨c7, c8⟩ := He.ba c
  exact ⟨He.eqO_ok c1, He.eqO_ok c2, of_decide_eq_true c3, c4, He.eqO_ok c5, He.eqO_ok c6, of_decide_eq_true c7, of_decide_eq_true c8⟩
theorem isi_ok {N : PySem.W.Frag → Nm} {u : PySem.W.Frag → Value} {ks yes : List Kd} (c : fIsi N u ks yes K = true) (ho : ks.contains .oth = false) (hi : ∀ i, ks.contains (.own i) = true → InstF K ((N K).cl i)) (he : ∀ i, ks.contains (.exc i) = true → ExcC K ((N K).cl i)) : IsiF K (N K) (u K) (fun k => if ks.contains k then some (yes.contains k) else none) := fun k b e => by
  dsimp only at e
  by_cases hk : ks.contains k = true
  · rw [if_pos hk] at e
    cases e
    refine ⟨?_, ?_, ?_, of_decide_eq_true (List.all_eq_true.mp c k (by simpa using hk))⟩
    · rintro rfl; rw [ho] at hk; cases hk
    · rintro i rfl; exact hi i hk
    · rintro i rfl; exact he i hk
  · rw [if_neg hk] at e; cases e
theorem cmp_ok {N : PySem.W.Frag → Nm} {C : PySem.W.Frag → Addr} {ks : List Kd} (c : fCmp N C ks K = true) (ho : ks.contains .oth = false) (hi : ∀ i, ks.contains (.own i) = true → InstF K ((N K).cl i)) (he : ∀ i, ks.contains (.exc i) = true → ExcC K ((N K).cl i)) : CmpF K (N K) (C K) (fun k => ks.contains k) := fun k hk => by
  have hk : ks.contains k = true := hk
  refine ⟨?_, ?_, ?_, List.all_eq_true.mp c k (by simpa using hk)⟩
  · rintro rfl; rw [ho] at hk; cases hk
  · rintro i rfl; exact hi i hk
  · rintro i rfl; exact he i hk
theorem own_ok {x m : Str} (c : fOwn x m K = true) : OwnOp K (He.ga K x) (He.ma K (He.ga K x) m) m := by
  obtain ⟨c1, c⟩ := He.ba c
  obtain ⟨c2, c3⟩ := He.ba c
  exact ⟨c1, He.eqO_ok c2, c3⟩
theorem ownT_ok {x : Str} {nm T : String} (c : fOwnT x nm T K = true) : OwnOpT K (He.ga K x) nm T := by
  obtain ⟨c1, c⟩ := He.ba c
  obtain ⟨c2, c⟩ := He.ba c
  obtain ⟨c3, c4⟩ := He.ba c
  refine ⟨?_, Option.isSome_iff_exists.mp c2, Option.isSome_iff_exists.mp c3, of_decide_eq_true c4⟩
  split at c1
  · rename_i e; exact ⟨_, e, .inl rfl⟩
  · rename_i a e; exact ⟨_, e, .inr ⟨a, rfl⟩⟩
  · cases c1
theorem call_ok {x : Str} (c : fCall x K = true) : StX.CallO K (He.ga K x) (He.ma K (He.ga K x) "__call__") := by
  obtain ⟨c1, c⟩ := He.ba c
  obtain ⟨c2, c3⟩ := He.ba c
  exact ⟨He.eqO_ok c1, c2, c3⟩
theorem prop_ok {x m : Str} (c : fProp x m K = true) : PropOf K (He.ga K x) m (He.ma K (He.ga K x) m) (propG x m K) := by
  obtain ⟨c1, c⟩ := He.ba c
  obtain ⟨c2, c⟩ := He.ba c
  obtain ⟨c3, c4⟩ := He.ba c
  refine ⟨He.eqO_ok c1, He.eqO_ok c2, of_decide_eq_true c3, ?_⟩
  unfold propG
  split at c4
  · rename_i g r e; rw [e]; exact ⟨r, rfl⟩
  · cases c4
theorem tup_ok {x : Str} {ns : List Int} {N : Nm} (X : K.In h) (G : h.Ns mainGlobals mg) (c : fTup x ns K = true) : ∃ a, mg x = some (.ref a) ∧ ∀ R, Rep K N R (.tup (ns.map fun i => .at (.int i))) (.ref a) := by
  obtain ⟨c1, c2⟩ := He.ba c
  refine ⟨_, He.glo_ok X G c1, fun R => ?_⟩
  have := He.tupB_ok c2 R
  rw [List.map_map] at this
  exact .tup this (Reps.ints ns)
/-! ### the end -/
theorem cx0_of {P : Program} {w : World} {base : Heap} {k : Nat} {f : Addr} {fd : FuncData} {ps : List Str} {sp : Sp} (F : FnG P w K mg base (L2.CX P w) k f fd ps sp) : FnG P w K mg base CX0 k f fd ps (fun vs H Q _ => sp vs H Q E0) :=
  ⟨fun vs H Q _ h => F.len vs H Q E0 h, fun A outer s H args us vs Q E hr he hb hv h => codeAny_mono (F.run A outer s H args us vs Q E0 hr he hb hv h) fun r s' q => by
    cases r with
    | ok fl => cases fl <;> exact q
    | error e =>
      obtain ⟨_, _, _, _, _, _, _, _, _, _, _, _, z⟩ := (show L2.CX P w outer H s E0 e s' from q)
      exact z.elim⟩
/-- the law's promise, from its value -/
theorem sp_law {N : Nm} {F : Fn} {n : Nat} (hF : ∀ ns : List Int, ns.length ≤ n → ∃ ρ, F [.fz (.scr ns)] = .ok (.fz (.at (.bl true))) ρ) (H : Hp) (a : Addr) (ns : List Int) (hl : ns.length ≤ n) (ho : Only H) (hS : SqL K H a (ns.map V.int)) :
    spB K N 1 F [.ref a] H (fun v _ => v = .bl true) E0 := by
  obtain ⟨ρ, e⟩ := hF ns hl
  refine ⟨rfl, [.fz (.scr ns)], H, ⟨Sub.refl _, rfl, fun i x h => ?_, fun i j x y b h _ hx => ?_⟩, ?_⟩
  · cases i with
    | zero => simp at h; subst h; exact ⟨_, rfl, .scr hS⟩
    | succ i => simp at h
  · cases i with
    | zero => simp at h; subst h; cases hx
    | succ i => simp at h
  · rw [e]
    intro v H' R' s r ev
    cases (show Rep K N R' (.at (.bl true)) v from ev)
    rfl
end
end B

set_option Elab.async false
set_option linter.all false
set_option maxRecDepth 100000
set_option maxHeartbeats 4000000
/-! B12: evaluating the values of defs -/
namespace B
open PySem L2

/-- a call's end, nothing written back -/
def bk0 (r : Rz EV) (ρ : Env) : Rz EV := match r with
  | .ok (.fz p) _ => .ok (.fz p) ρ
  | .ok (.nw s) _ => .ok (.nw s) ρ
  | .ok (.vr _) _ => .no
  | .ex e _ => .ex e ρ
  | .no => .no
/-- .. the first argument written back at j -/
def bk1 (j : Nat) (r : Rz EV) (ρ : Env) : Rz EV := match r with
  | .ok (.fz p) (o :: _) => .ok (.fz p) (ρ.set j o)
  | .ok (.nw s) (o :: _) => .ok (.nw s) (ρ.set j o)
  | .ex e (o :: _) => .ex e (ρ.set j o)
  | .ok (.fz p) [] => .ok (.fz p) ρ
  | .ok (.nw s) [] => .ok (.nw s) ρ
  | .ex e [] => .ex e ρ
  | .ok (.vr _) _ => .no
  | .no => .no
section
variable {F : Fn} {ρ : Env} {p p1 p2 p3 p4 p5 : PV} {j : Nat} {s : Sl}
theorem back_fz : ∀ (ps : List PV) (as ρ : Env), back (ps.map .fz) as ρ = ρ
  | [], _, _ => rfl
  | _ :: _, [], _ => rfl
  | _ :: ps, _ :: as, ρ => back_fz ps as ρ
@[simp] theorem callV_1 : callV [false] F [.fz p] ρ = bk0 (F [.fz p]) ρ := by
  simp only [callV, bnd, pass1, frz, pur, slsOf, slOf, Option.bind, List.filterMap_cons, List.filterMap_nil, vrIx, List.nodup_nil, if_true, bk0]
  cases F [.fz p] with
  | ok x ρa => cases x <;> simp only [back_fz [p]] <;> exact congrArg _ (back_fz [p] _ _)
  | ex e ρa => exact congrArg _ (back_fz [p] _ _)
  | no => rfl
@[simp] theorem callV_2 : callV [false, false] F [.fz p, .fz p1] ρ = bk0 (F [.fz p, .fz p1]) ρ := by
  simp only [callV, bnd, pass1, frz, pur, slsOf, slOf, Option.bind, List.filterMap_cons, List.filterMap_nil, vrIx, List.nodup_nil, if_true, bk0]
  cases F [.fz p, .fz p1] with
  | ok x ρa => cases x <;> simp only [] <;> exact congrArg _ (back_fz [p, p1] _ _)
  | ex e ρa => exact congrArg _ (back_fz [p, p1] _ _)
  | no => rfl
@[simp] theorem callV_3 : callV [false, false, false] F [.fz p, .fz p1, .fz p2] ρ = bk0 (F [.fz p, .fz p1, .fz p2]) ρ := by
  simp only [callV, bnd, pass1, frz, pur, slsOf, slOf, Option.bind, List.filterMap_cons, List.filterMap_nil, vrIx, List.nodup_nil, if_true, bk0]
  cases F [.fz p, .fz p1, .fz p2] with
  | ok x ρa => cases x <;> simp only [] <;> exact congrArg _ (back_fz [p, p1, p2] _ _)
  | ex e ρa => exact congrArg _ (back_fz [p, p1, p2] _ _)
  | no => rfl
@[simp] theorem callV_4 : callV [false, false, false, false] F [.fz p, .fz p1, .fz p2, .fz p3] ρ = bk0 (F [.fz p, .fz p1, .fz p2, .fz p3]) ρ := by
  simp only [callV, bnd, pass1, frz, pur, slsOf, slOf, Option.bind, List.filterMap_cons, List.filterMap_nil, vrIx, List.nodup_nil, if_true, bk0]
  cases F [.fz p, .fz p1, .fz p2, .fz p3] with
  | ok x ρa => cases x <;> simp only [] <;> exact congrArg _ (back_fz [p, p1, p2, p3] _ _)
  | ex e ρa => exact congrArg _ (back_fz [p, p1, p2, p3] _ _)
  | no => rfl
theorem back_vr (ps : List PV) (as ρ : Env) : back (.vr j :: ps.map .fz) as ρ = match as with
  | [] => ρ
  | o :: _ => ρ.set j o := by
  cases as with
  | nil => rfl
  | cons o as => exact back_fz ps as _
theorem callV_v (ps : List PV) (h : ρ[j]? = some (some s)) (hF : slsOf ρ (ps.map .fz) = some (ps.map .fz)) (hp : ∀ ρ, pass1 (ps.map fun _ => false) (ps.map .fz) ρ = .ok (ps.map .fz) ρ) (hv : (ps.map EV.fz).filterMap vrIx = []) :
    callV (true :: ps.map fun _ => false) F (.vr j :: ps.map .fz) ρ = bk1 j (F (s :: ps.map .fz)) ρ := by
  simp only [callV, bnd, pass1, hp, pur, slsOf, slOf, h, hF, Option.bind, List.filterMap_cons, vrIx, hv]
  simp only [List.nodup_cons, List.not_mem_nil, not_false_eq_true, List.nodup_nil, and_self, if_true, bk1]
  cases F (s :: ps.map .fz) with
  | ok x ρa => cases x <;> cases ρa <;> simp only [back_vr]
  | ex e ρa => cases ρa <;> simp only [back_vr]
  | no => rfl
theorem callV_v0 (h : ρ[j]? = some (some s)) : callV [true] F [.vr j] ρ = bk1 j (F [s]) ρ := callV_v [] h rfl (fun _ => rfl) rfl
theorem callV_v1 (h : ρ[j]? = some (some s)) : callV [true, false] F [.vr j, .fz p] ρ = bk1 j (F [s, .fz p]) ρ := callV_v [p] h rfl (fun _ => rfl) rfl
theorem callV_v2 (h : ρ[j]? = some (some s)) : callV [true, false, false] F [.vr j, .fz p, .fz p1] ρ = bk1 j (F [s, .fz p, .fz p1]) ρ := callV_v [p, p1] h rfl (fun _ => rfl) rfl
theorem callV_v3 (h : ρ[j]? = some (some s)) : callV [true, false, false, false] F [.vr j, .fz p, .fz p1, .fz p2] ρ = bk1 j (F [s, .fz p, .fz p1, .fz p2]) ρ := callV_v [p, p1, p2] h rfl (fun _ => rfl) rfl
/-- a new instance -/
def bkM (r : Rz EV) (ρ : Env) : Rz EV := match r with
  | .ok (.fz (.at .non)) (some s :: _) => if s.own then .ok (.nw s) ρ else .no
  | .ex e (_ :: _) => .ex e ρ
  | _ => .no
@[simp] theorem makeV_3 {c : Nat} : makeV c [false, false, false] F [.fz p, .fz p1, .fz p2] ρ = bkM (F [.oi c [], .fz p, .fz p1, .fz p2]) ρ := by
  simp only [makeV, bnd, pass1, frz, pur, slsOf, slOf, Option.bind, List.filterMap_cons, List.filterMap_nil, vrIx, List.nodup_nil, if_true, bkM]
  split <;> rename_i e <;> (try simp only [e]) <;> first | rfl | (split <;> first | exact congrArg _ (back_fz [p, p1, p2] _ _) | rfl) | exact congrArg _ (back_fz [p, p1, p2] _ _)
@[simp] theorem makeV_1 {c : Nat} : makeV c [false] F [.fz p] ρ = bkM (F [.oi c [], .fz p]) ρ := by
  simp only [makeV, bnd, pass1, frz, pur, slsOf, slOf, Option.bind, List.filterMap_cons, List.filterMap_nil, vrIx, List.nodup_nil, if_true, bkM]
  split <;> rename_i e <;> (try simp only [e]) <;> first | rfl | (split <;> first | exact congrArg _ (back_fz [p] _ _) | rfl) | exact congrArg _ (back_fz [p] _ _)
end
/-! ### sizes -/
def Bd (n : Nat) (i : Int) : Prop := i.natAbs < 2 ^ n
theorem Bd.mono {n m : Nat} {i : Int} (h : Bd n i) (l : n ≤ m) : Bd m i := Nat.lt_of_lt_of_le h (Nat.pow_le_pow_right (by decide) l)
theorem Bd.add {n : Nat} {i j : Int} (h : Bd n i) (h' : Bd n j) : Bd (n + 1) (i + j) := by
  unfold Bd at *
  have := Int.natAbs_add_le i j
  rw [Nat.pow_succ]
  omega
theorem Bd.sub {n : Nat} {i j : Int} (h : Bd n i) (h' : Bd n j) : Bd (n + 1) (i - j) := by
  unfold Bd at *
  have := Int.natAbs_sub_le i j
  rw [Nat.pow_succ]
  omega
theorem Bd.mul {n m : Nat} {i j : Int} (h : Bd n i) (h' : Bd m j) : Bd (n + m) (i * j) := wide_lt h h'
theorem Bd.div {n : Nat} {i j : Int} (h : Bd n i) (hj : 0 < j) : Bd n (i / j) := by
  unfold Bd at *
  refine Nat.lt_of_le_of_lt ?_ h
  by_cases h0 : 0 ≤ i
  · have h1 : 0 ≤ i / j := Int.ediv_nonneg h0 (Int.le_of_lt hj)
    have h2 : i / j ≤ i := Int.ediv_le_self j h0
    omega
  · have h1 : i / j < 0 := Int.ediv_neg_of_neg_of_pos (by omega) hj
    have h2 : i ≤ i / j := by
      have h3 := Int.ediv_mul_le i (Int.ne_of_gt hj)
      have h4 : i < (i / j + 1) * j := Int.lt_ediv_add_one_mul_self i hj
      have h5 : (i / j + 1) * j ≤ (i / j + 1) * 1 := Int.mul_le_mul_of_nonpos_left (by omega) (by omega)
      omega
    omega
theorem Bd.of {n : Nat} {i j : Int} (h0 : 0 ≤ i) (h : i ≤ j) (hj : Bd n j) : Bd n i := wide_le h0 h hj
theorem Bd.lt {n : Nat} {i : Int} (h0 : 0 ≤ i) (h : i < 2 ^ n) : Bd n i := by
  unfold Bd
  have : (i.natAbs : Int) < ((2 ^ n : Nat) : Int) := by
    rw [Int.natAbs_of_nonneg h0, Int.natCast_pow]; exact h
  exact Int.ofNat_lt.mp this
theorem mulC_bd {n m : Nat} {i j : Int} (h : Bd n i) (h' : Bd m j) (l : n + m ≤ 1000000 := by decide) : mulC i j = true := by
  unfold mulC
  refine decide_eq_true ?_
  have x : i.natAbs.log2 < n + 1 := PySem.Flt.log2_lt_of (by omega) (Bd.mono h (Nat.le_succ n))
  have y : j.natAbs.log2 < m + 1 := PySem.Flt.log2_lt_of (by omega) (Bd.mono h' (Nat.le_succ m))
  omega
theorem divC_bd {n : Nat} {i j : Int} (h : 0 < j) (hj : Bd n j) (l : n ≤ 8000 := by decide) : divC i j = true := by
  unfold divC
  rw [Bool.and_eq_true]
  have y : j.natAbs.log2 < n + 1 := PySem.Flt.log2_lt_of (by omega) (Bd.mono hj (Nat.le_succ n))
  exact ⟨decide_eq_true h, decide_eq_true (by omega)⟩
theorem modC_pos {i j : Int} (h : 0 < j) : modC i j = true := decide_eq_true h
end B

set_option Elab.async false
set_option linter.all false
set_option maxRecDepth 100000
set_option maxHeartbeats 4000000
/-! B13: comprehensions -/
namespace B
open PySem L2

/-- the comprehension's own names forgotten -/
def wipeE (ρ : Env) : List Nat → Env
  | [] => ρ
  | v :: vs => (wipeE ρ vs).set v none
section
variable {K : PySem.W.Frag} {N : Nm} {W : WX} {P : List Nat} {H R H' R' H0 R0 H1 R1 : Hp} {ρ ρ' ρ0 ρ1 : Env} {σ σ' σ1 σ2 : St} {vs : List Nat} {i : Nat} {x : Sl} {a : Addr}
theorem wipeE_some : ∀ {vs : List Nat}, (wipeE ρ vs)[i]? = some (some x) → ρ[i]? = some (some x) ∧ i ∉ vs
  | [], h => ⟨h, by simp⟩
  | v :: vs, h => by
    unfold wipeE at h
    by_cases e : v = i
    · subst e
      rw [List.getElem?_set] at h
      simp at h
    · rw [List.getElem?_set_ne e] at h
      obtain ⟨q, b⟩ := wipeE_some h
      refine ⟨q, fun w => ?_⟩
      rcases List.mem_cons.mp w with z | z
      · exact e z.symm
      · exact b z
theorem wipe_keep : ∀ {vs : List Nat}, i ∉ vs → (wipe σ vs)[i]? = σ[i]?
  | [], _ => rfl
  | v :: vs, h => by
    have h1 : v ≠ i := fun e => h (by simp [e])
    have h2 : i ∉ vs := fun e => h (by simp [e])
    unfold wipe
    rw [List.getElem?_set_ne h1]
    exact wipe_keep h2
theorem wipe_in : ∀ {vs : List Nat}, i ∈ vs → (wipe σ vs)[i]? = if i < σ.length then some none else none
  | [], h => by simp at h
  | v :: vs, h => by
    unfold wipe
    by_cases e : v = i
    · subst e
      rw [List.getElem?_set]
      simp [wipe_length]
    · rw [List.getElem?_set_ne e]
      refine wipe_in ?_
      rcases List.mem_cons.mp h with z | z
      · exact absurd z.symm e
      · exact z
theorem wipe_eq (hl : σ2.length = σ.length) (h : ∀ i, i ∉ vs → i < σ.length → σ2[i]? = σ[i]?) : wipe σ2 vs = wipe σ vs := by
  refine List.ext_getElem? fun i => ?_
  by_cases hi : i ∈ vs
  · rw [wipe_in hi, wipe_in hi, hl]
  · rw [wipe_keep hi, wipe_keep hi]
    by_cases h2 : i < σ.length
    · exact h i hi h2
    · rw [List.getElem?_eq_none (by omega), List.getElem?_eq_none (by omega)]
theorem wipe_wipe : wipe (wipe σ vs) vs = wipe σ vs := wipe_eq (wipe_length _ _) fun i hi _ => wipe_keep hi
theorem wipeE_len : ∀ {vs : List Nat}, (wipeE ρ vs).length = ρ.length
  | [] => rfl
  | v :: vs => by unfold wipeE; rw [List.length_set]; exact wipeE_len
theorem SR.wipe (r : SR K N H R ρ σ) : SR K N H R (wipeE ρ vs) (L2.wipe σ vs) := ⟨r.sub, by rw [wipeE_len, wipe_length, r.len], fun i x e => by
    obtain ⟨q, b⟩ := wipeE_some e
    rw [wipe_keep b]
    exact r.at_ i x q,
  fun i j x y a hi hj hx hy h1 h2 => by
    obtain ⟨a1, b1⟩ := wipeE_some hi
    obtain ⟨a2, b2⟩ := wipeE_some hj
    rw [wipe_keep b1] at h1
    rw [wipe_keep b2] at h2
    exact r.sep i j x y a a1 a2 hx hy h1 h2⟩
theorem own_wipe (w : Own (wipeE ρ vs) (wipe σ vs) a) : Own ρ σ a := by
  obtain ⟨j, x, h1, h2, h3⟩ := w
  obtain ⟨q, b⟩ := wipeE_some h1
  rw [wipe_keep b] at h3
  exact ⟨j, x, q, h2, h3⟩
theorem SR.unw (r : SR K N H R ρ (L2.wipe σ vs)) {j : Nat} {y : Sl} {v : V} (h : ρ[j]? = some (some y)) (h1 : σ[j]? = some (some v)) : (L2.wipe σ vs)[j]? = some (some v) := by
  obtain ⟨u, g1, g2⟩ := r.at_ j y h
  have := (wipe_some g1).1
  rw [h1] at this
  rw [g1, this]
theorem SR.unwipe (r : SR K N H R ρ (L2.wipe σ vs)) : SR K N H R ρ σ := ⟨r.sub, by rw [r.len, wipe_length], fun i x e => by
    obtain ⟨v, h1, h2⟩ := r.at_ i x e
    exact ⟨v, (wipe_some h1).1, h2⟩,
  fun i j x y a hi hj hx hy h1 h2 => r.sep i j x y a hi hj hx hy (r.unw hi h1) (r.unw hj h2)⟩
theorem own_unwipe (r : SR K N H R ρ (wipe σ vs)) (w : Own ρ σ a) : Own ρ (wipe σ vs) a := by
  obtain ⟨j, x, h1, h2, h3⟩ := w
  exact ⟨j, x, h1, h2, r.unw h1 h3⟩
/-- an object that is nobody's is written -/
theorem SR.upd_ (r : SR K N H R ρ σ) {D : Addr} {o : HO} (n : ¬ Own ρ σ D) (rD : R D = none) : SR K N (upd H D o) R ρ σ := ⟨fun b u q => by rw [upd_ne (ne_of_none q rD)]; exact r.sub b u q, r.len, fun i x e => by
    obtain ⟨v, h1, h2⟩ := r.at_ i x e
    refine ⟨v, h1, ?_⟩
    cases ho : x.own with
    | false =>
      cases x with
      | fz p => exact h2
      | ow xs => cases ho
      | oi c fs => cases ho
    | true =>
      obtain ⟨b, u, rfl, h3, h4⟩ := h2.there ho
      have ne : b ≠ D := fun z => n (by subst z; exact ⟨i, x, e, ho, h1⟩)
      exact h2.keep ho (Sub.refl _) (fun o q => by rw [upd_ne ne]; exact q) fun o q z => z, r.sep⟩
theorem Stp.upd_ (s : Stp H R ρ σ H' R' ρ' σ') {D : Addr} {o : HO} (n : H D = none) : Stp H R ρ σ (upd H' D o) R' ρ' σ' := ⟨s.sub, fun a u h k => by rw [upd_ne (ne_of_none h n)]; exact s.keep a u h k, s.new, s.own, fun a h => by
  by_cases e : a = D
  · rw [e]; exact n
  · rw [upd_ne e] at h; exact s.live a h⟩

def lcTurn (t : TgS) (tt : M Bool) (te : M EV) (p : PV) : M (Option PV) := fun ρ => match t p ρ with
  | none => .no
  | some ρ1 => if ρ1.length = ρ.length then (match tt ρ1 with
    | .ok true ρ2 => (match te ρ2 with
      | .ok x ρ3 => (match frz x ρ3 with
        | .ok q ρ4 => .ok (some q) ρ4
        | _ => .no)
      | _ => .no)
    | .ok false ρ2 => .ok none ρ2
    | _ => .no) else .no
def lcF (t : TgS) (vs : List Nat) (tt : M Bool) (te : M EV) : List PV → List PV → M (List PV)
  | [], acc => pur acc
  | p :: ps, acc => fun ρ => match lcTurn t tt te p ρ with
    | .ok o ρ' => lcF t vs tt te ps (acc ++ o.toList) (wipeE ρ' vs)
    | _ => .no
def lcN (t : TgS) (vs : List Nat) (tt : M Bool) (te : M EV) (ps : List PV) : M EV := fun ρ => if ps.length ≤ sizeLine then (match lcF t vs tt te ps [] (wipeE ρ vs) with
  | .ok acc ρ' => .ok (.nw (.ow acc)) ρ'
  | _ => .no) else .no
def lcV (it : PV → Option (List PV)) (t : TgS) (vs : List Nat) (tt : M Bool) (te : M EV) (x : EV) : M EV := bnd (frz x) fun p => match it p with
  | some ps => lcN t vs tt te ps
  | none => no
def lcR1 (t : TgS) (vs : List Nat) (tt : M Bool) (te : M EV) : List EV → M EV
  | [.fz (.at (.int j))] => if smallI j then lcN t vs tt te (rngL 0 j) else no
  | _ => no
def LcP (K : PySem.W.Frag) (N : Nm) (H R : Hp) (ρ : Env) (σ : St) (Q : VK) (r : Rz (List PV)) : Prop := match r with
  | .ok acc ρ' => ∀ v H' R', Stp H R ρ σ H' R' ρ' σ → SR K N H' R' ρ' σ → EvR K N H H' R' ρ' σ (.nw (.ow acc)) v → Q v H'
  | _ => False
/-- a target that stores at vs alone -/
def gC (K : PySem.W.Frag) (N : Nm) (vs : List Nat) (t : TgS) : TG := fun v σ H Q => ∃ ρ R p, SR K N H R ρ σ ∧ Rep K N R p v ∧ ∃ ρ', t p ρ = some ρ' ∧ ∀ σ', SR K N H R ρ' σ' → (∀ i, i ∉ vs → i < σ.length → σ'[i]? = σ[i]?) → (∀ a, Own ρ' σ' a → Own ρ σ a) → Q σ' H
abbrev W0 : WX := fun _ _ _ _ => False
abbrev LcW (K : PySem.W.Frag) (N : Nm) (vs : List Nat) (t : TgS) (tt : M Bool) (te : M EV) (H1 : Hp) (σ : St) (J : It) (Q : VK) : Prop :=
    ∀ D, H1 D = none → ∃ Wd : Nat → Nat → Hp → Prop, (∃ m, Wd 0 m (upd H1 D (.lst []))) ∧ ∀ i m H', Wd i m H' →
      (J.stop i H' ∧ Q (.ref D) H') ∨ (J.go i H' ∧ ∃ Nx : Hp → Prop, (∀ H'', Nx H'' → ∃ m', m' < m ∧ Wd (i + 1) m' H'') ∧ ∀ x H'', J.yld i H' x H'' → gC K N vs t x σ H'' fun σ2 H2 => wipe σ2 vs = σ ∧ tT K N W0 tt σ2 H2 fun b H3 =>
        if b = true then tE K N W0 te σ2 H3 fun y H4 => ∃ acc, H4 D = some (.lst acc) ∧ acc.length < sizeLine ∧ Nx (upd H4 D (.lst (acc ++ [y]))) else Nx H3)
theorem lc_run {t : TgS} {tt : M Bool} {te : M EV} {J : It} {ps : List PV} {Q : VK} (s1 : Stp H R ρ σ H1 R1 ρ1 σ) (r1 : SR K N H1 R1 ρ1 σ) (hl : ps.length ≤ sizeLine)
    (hstop : ∀ H' R', Sub R1 R' → Sub R' H' → J.stop ps.length H') (hgo : ∀ i H' R', Sub R1 R' → Sub R' H' → i < ps.length → J.go i H')
    (hy : ∀ i H' R' x H'' p, Sub R1 R' → Sub R' H' → ps[i]? = some p → J.yld i H' x H'' → H'' = H' ∧ Rep K N R' p x) (h : LcP K N H R ρ σ Q (lcF t vs tt te ps [] (wipeE ρ1 vs))) :
    LcW K N vs t tt te H1 (wipe σ vs) J Q := by
  intro D nD
  have hD0 := s1.live D nD
  have rD1 : R1 D = none := rnone_of r1.sub nD
  have I : ∀ (i : Nat) (H'' : Hp), Prop := fun _ _ => True
  refine ⟨fun i m H'' => m = ps.length - i ∧ i ≤ ps.length ∧ ∃ R' ρ' acc us, Stp H R ρ σ H'' R' ρ' (wipe σ vs) ∧ SR K N H'' R' ρ' (wipe σ vs) ∧ Sub R1 R' ∧ H'' D = some (.lst us) ∧ R' D = none ∧ ¬ Own ρ' (wipe σ vs) D ∧ Reps K N R' acc us ∧ acc.length ≤ i ∧ LcP K N H R ρ σ Q (lcF t vs tt te (ps.drop i) acc ρ'),
    ⟨ps.length, by simp, Nat.zero_le _, R1, wipeE ρ1 vs, [], [], ?_, ?_, Sub.refl _, upd_same, rD1, ?_, .nil, Nat.le_refl _, h⟩, ?_⟩
  · exact Stp.upd_ ⟨s1.sub, s1.keep, s1.new, fun a w => s1.own a (own_wipe w), s1.live⟩ hD0
  · exact SR.upd_ r1.wipe (fun w => by
      obtain ⟨o, e, _⟩ := r1.own_there (own_wipe w)
      rw [nD] at e; cases e) rD1
  · intro w
    obtain ⟨o, e, _⟩ := r1.own_there (own_wipe w)
    rw [nD] at e; cases e
  rintro i m H2 ⟨rfl, hi, R2, ρ2, acc, us, s2, r2, sb2, hD, rD, oD, reps, ha, hq⟩
  by_cases hlt : i < ps.length
  · refine .inr ⟨hgo i H2 R2 sb2 r2.sub hlt, fun H'' => ∃ R' ρ' acc us, Stp H R ρ σ H'' R' ρ' (wipe σ vs) ∧ SR K N H'' R' ρ' (wipe σ vs) ∧ Sub R1 R' ∧ H'' D = some (.lst us) ∧ R' D = none ∧ ¬ Own ρ' (wipe σ vs) D ∧ Reps K N R' acc us ∧ acc.length ≤ i + 1 ∧ LcP K N H R ρ σ Q (lcF t vs tt te (ps.drop (i + 1)) acc ρ'),
      fun H'' nx => ⟨ps.length - (i + 1), by omega, rfl, hlt, nx⟩, fun x H3 y => ?_⟩
    have hp : ps[i]? = some ps[i] := List.getElem?_eq_getElem hlt
    obtain ⟨e3, rp⟩ := hy i H2 R2 x H3 _ sb2 r2.sub hp y
    subst e3
    rw [drop_get hp] at hq
    unfold lcF lcTurn at hq
    cases e1 : t ps[i] ρ2 with
    | none => rw [e1] at hq; exact hq.elim
    | some ρa =>
      rw [e1] at hq
      dsimp only at hq
      by_cases hla : ρa.length = ρ2.length
      · rw [if_pos hla] at hq
        refine ⟨ρ2, R2, _, r2, rp, ρa, e1, fun σ2 ra p2 o2 => ?_⟩
        have sw : wipe σ2 vs = wipe σ vs := by
          rw [← wipe_wipe (σ := σ)]
          refine wipe_eq (by rw [← ra.len, ← r2.len, hla]) fun j hj hj2 => p2 j hj hj2
        have sa : Stp H R ρ σ H3 R2 ρa σ2 := ⟨s2.sub, s2.keep, s2.new, fun a w => s2.own a (o2 a w), s2.live⟩
        have oa : ¬ Own ρa σ2 D := fun w => oD (o2 D w)
        refine ⟨sw, ρa, R2, ra, ?_⟩
        cases e2 : tt ρa with
        | no => rw [e2] at hq; exact hq.elim
        | ex e ρb => rw [e2] at hq; exact hq.elim
        | ok b ρb =>
          rw [e2] at hq
          intro v H4 R4 s4 r4 ev
          have ev : v = b := ev
          subst ev
          have D4 := s4.keep D _ hD oa
          have RD4 := s4.rnone hD oa rD
          have ob : ¬ Own ρb σ2 D := fun w => by
            rcases s4.own D w with z | z
            · exact oa z
            · rw [hD] at z; cases z
          cases v with
          | false =>
            dsimp only at hq
            rw [Option.toList, List.append_nil] at hq
            simp only [Bool.false_eq_true, if_false]
            have s5 := sa.trans s4
            refine ⟨R4, wipeE ρb vs, acc, us, ?_, ?_, sb2.trans s4.sub, D4, RD4, fun w => ?_, reps.mono s4.sub, Nat.le_succ_of_le ha, hq⟩
            · rw [← sw]
              exact ⟨s5.sub, s5.keep, s5.new, fun a w => s5.own a (own_wipe w), s5.live⟩
            · rw [← sw]; exact r4.wipe
            · rw [← sw] at w; exact ob (own_wipe w)
          | true =>
            simp only [if_true]
            refine ⟨ρb, R4, r4, ?_⟩
            dsimp only at hq
            cases e4 : te ρb with
            | no => rw [e4] at hq; exact hq.elim
            | ex e ρc => rw [e4] at hq; exact hq.elim
            | ok z ρc =>
              rw [e4] at hq
              dsimp only at hq
              intro u H5 R5 s5 r5 ev5
              rcases frz_ok s5 r5 ev5 with e5 | ⟨q, ρd, R6, e5, s6, r6, rp6, sb6, _⟩
              · rw [e5] at hq; exact hq.elim
              · rw [e5] at hq
                dsimp only at hq
                have D5 := s6.keep D _ D4 ob
                have RD6 := s6.rnone D4 ob RD4
                have od : ¬ Own ρd σ2 D := fun w => by
                  rcases s6.own D w with z | z
                  · exact ob z
                  · rw [D4] at z; cases z
                have s7 := (sa.trans s4).trans s6
                have nw : ¬ Own (wipeE ρd vs) (wipe σ vs) D := fun w => by
                  rw [← sw] at w; exact od (own_wipe w)
                refine ⟨us, D5, by rw [← reps.length]; omega, R6, wipeE ρd vs, acc ++ [q], us ++ [u], ?_, ?_, (sb2.trans s4.sub).trans s6.sub, upd_same, RD6, nw, (reps.mono (s4.sub.trans s6.sub)).append (.cons rp6 .nil), by rw [List.length_append]; exact Nat.succ_le_succ ha, hq⟩
                · refine Stp.upd_ ?_ hD0
                  rw [← sw]
                  exact ⟨s7.sub, s7.keep, s7.new, fun a w => s7.own a (own_wipe w), s7.live⟩
                · refine SR.upd_ ?_ nw RD6
                  rw [← sw]; exact r6.wipe
      · rw [if_neg hla] at hq
        exact hq.elim
  · have e : i = ps.length := by omega
    subst e
    rw [List.drop_length] at hq
    refine .inl ⟨hstop H2 R2 sb2 r2.sub, ?_⟩
    refine hq (.ref D) H2 R2 ⟨s2.sub, s2.keep, s2.new, fun a w => s2.own a (own_unwipe r2 w), s2.live⟩ r2.unwipe ⟨rfl, ⟨D, us, rfl, hD, reps, rD⟩, D, rfl, fun w => oD (own_unwipe r2 w), hD0⟩
end
section
variable {X : Cx} {N : Nm} {W : WX} {P vs : List Nat} {elt tg iter : Expr} {ifs : List Expr} {scope : Scope} {own : List (Str × Nat)} {pos : Pos} {f te : M EV} {tt : M Bool} {t : TgS}
abbrev BTs (X : Cx) (N : Nm) (W : WX) (es : List Expr) (f : M Bool) : Prop := PTs X es (tT X.K N W f)
theorem take0 {X : Cx} : Takes X W0 := fun u s' ⟨a, B, sI, pins, σ, H, cls, d, e, I, nb, up, sky, na, os, ag, w⟩ => w.elim
theorem pts_weak {X : Cx} {ifs : List Expr} {t t' : TT} (h : PTs X ifs t) (w : ∀ σ H Q, t' σ H Q → t σ H Q) : PTs X ifs t' := ⟨fun pins s σ H Q I q => h.run pins s σ H Q I (w σ H Q q)⟩
theorem bts_nil : BTs X N W [] (pur true) := pts_weak pts_nil fun σ H Q ⟨ρ, R, r, h⟩ => h true H R .refl r rfl
theorem bts_one {c : Expr} (h : BT X N W c tt) : BTs X N W [c] tt := pts_one h
theorem bgc (hg : ∀ P, (∀ i ∈ vs, i ∉ P) → BG X N P tg t) : PG X tg (gC X.K N vs t) := ⟨fun pins s σ H v u Q I r q => by
  obtain ⟨ρ, R, p, r1, rp, ρ', e, k⟩ := q
  refine (hg ((List.range σ.length).filter fun i => decide (i ∉ vs)) (fun i hi => by simp [hi])).run pins s σ H v u Q I r ⟨ρ, R, p, r1, rp, ρ', e, fun σ' r' p' o' => k σ' r' (fun i hi hl => p' i ?_) o'⟩
  simp [hi, hl]⟩
theorem lcN_use {K : PySem.W.Frag} {H R : Hp} {ρ ρ1 : Env} {σ : St} {ps : List PV} {Q : VK} (h : Pst K N (EvR K N) W (lcN t vs tt te ps ρ1) σ H R ρ Q) : ps.length ≤ sizeLine ∧ LcP K N H R ρ σ Q (lcF t vs tt te ps [] (wipeE ρ1 vs)) := by
  unfold lcN at h
  split at h
  · rename_i hl
    refine ⟨hl, ?_⟩
    cases e : lcF t vs tt te ps [] (wipeE ρ1 vs) with
    | ok acc ρ' => rw [e] at h; exact h
    | ex _ _ => rw [e] at h; exact h.elim
    | no => rw [e] at h; exact h.elim
  · exact h.elim
theorem lc_seq {K : PySem.W.Frag} {H R H1 R1 : Hp} {ρ ρ1 : Env} {σ : St} {Q : VK} {ps : List PV} {us : List V} (s1 : Stp H R ρ σ H1 R1 ρ1 σ) (r1 : SR K N H1 R1 ρ1 σ) (rps : Reps K N R1 ps us) {J : It} {S : Hp → Prop}
    (hgo : ∀ i H x, S H → us[i]? = some x → J.go i H) (hstop : ∀ H, S H → J.stop us.length H) (hy : ∀ i H x H' u, S H → us[i]? = some u → J.yld i H x H' → H' = H ∧ x = u) (hl : ∀ H', (∀ b o, R1 b = some o → H' b = some o) → S H')
    (h : Pst K N (EvR K N) W (lcN t vs tt te ps ρ1) σ H R ρ Q) : LcW K N vs t tt te H1 (wipe σ vs) J Q := lc_run (K := K) (N := N) (t := t) (tt := tt) (te := te) (J := J) (ps := ps) (Q := Q) (vs := vs) s1 r1 (lcN_use h).1
      (fun H' R' sb sb' => by rw [rps.length]; exact hstop H' (hl H' fun b o q => sb' b o (sb b o q)))
      (fun i H' R' sb sb' hi => by
        have hi' : i < us.length := by rw [← rps.length]; exact hi
        exact hgo i H' us[i] (hl H' fun b o q => sb' b o (sb b o q)) (List.getElem?_eq_getElem hi'))
      (fun i H' R' x H'' p sb sb' hp y => by
        obtain ⟨u, g1, g2⟩ := rps.get hp
        obtain ⟨z1, z2⟩ := hy i H' x H'' u (hl H' fun b o q => sb' b o (sb b o q)) g1 y
        subst z2
        exact ⟨z1, Rep.mono sb g2⟩) (lcN_use h).2
/-- [elt for tg in iter if ..], iter a list -/
theorem lcL_use (own : List (Str × Nat)) : ∀ (σ : L2.St) (H : Hp) (Q : VK), tE X.K N W (bnd f fun x => lcV itemsL t (own.map (·.2)) tt te x) σ H Q → tLc (iList X.K (tE X.K N W f)) (gC X.K N (own.map (·.2)) t) (tT X.K N W0 tt) (tE X.K N W0 te) (own.map (·.2)) σ H Q :=
  fun σ H Q ⟨ρ, R, r, h⟩ => ⟨ρ, R, r, Pst.bnd' .refl h fun x ρ1 v H1 R1 s1 _ r1 e1 h1 => by
    unfold lcV at h1
    rcases frz_ok s1 r1 e1 with e | ⟨p, ρ2, R2, e, s2, r2, rp, sb, _⟩
    · simp only [bnd, e] at h1
      exact h1.elim
    · simp only [bnd, e] at h1
      cases e3 : itemsL p with
      | none => rw [e3] at h1; exact h1.elim
      | some ps =>
        rw [e3] at h1
        obtain ⟨a, us, rfl, hl, rps⟩ : ∃ a us, v = V.ref a ∧ (∀ H', (∀ b o, R2 b = some o → H' b = some o) → SqL X.K H' a us) ∧ Reps X.K N R2 ps us := by
          cases rp with
          | lst q w => cases e3; exact ⟨_, _, rfl, fun H' k => .inl (.inl (k _ _ q)), w⟩
          | scr q => cases e3; exact ⟨_, _, rfl, fun H' k => Sub.seq k q, Reps.ints _⟩
          | «at» => cases e3
          | tup => cases e3
          | ins => cases e3
          | exc => cases e3
          | excF => cases e3
          | dct => cases e3
        refine ⟨a, rfl, ⟨us, hl H1 r2.sub⟩, ?_⟩
        exact lc_seq (J := Itl X.K a) (S := fun H' => SqL X.K H' a us) s2 r2 rps (fun i H x S hx => ⟨us, x, S, hx⟩) (fun H S => ⟨us, S, Nat.le_refl _⟩)
          (fun i H x H' u S hu y => ⟨y.1, by have := y.2 us S; rw [hu] at this; cases this; rfl⟩) hl h1⟩
theorem be_lcL (own : List (Str × Nat)) (hc : X.calm = true) (hN : X.N.Nodup) (hi : BE X N W iter f) (ok : BlkOk X.N X.env.scope scope own)
    (hg : ∀ (s : Shared) (H : Hp) (C : Addr) (cl : List (Str × Addr)) (fp : List Addr), ∀ P, (∀ i ∈ own.map (·.2), i ∉ P) → BG (X.blk s H scope (compEnvC scope cl C X.env) fp) N P tg t)
    (ht : ∀ (s : Shared) (H : Hp) (C : Addr) (cl : List (Str × Addr)) (fp : List Addr), BTs (X.blk s H scope (compEnvC scope cl C X.env) fp) N W0 ifs tt)
    (he : ∀ (s : Shared) (H : Hp) (C : Addr) (cl : List (Str × Addr)) (fp : List Addr), BE (X.blk s H scope (compEnvC scope cl C X.env) fp) N W0 elt te) (hs : ∀ x, foldedSetIterable iter X.env x = pure x := by intro _; rfl) :
    BE X N W (.ListComp elt [⟨tg, iter, ifs, 0⟩] scope pos) (bnd f fun x => lcV itemsL t (own.map (·.2)) tt te x) :=
  pe_weak (pe_lc (g := gC X.K N (own.map (·.2)) t) (tt := tT X.K N W0 tt) (te := tE X.K N W0 te) hc hN (pi_list hi) ok (fun s H C cl fp => bgc (hg s H C cl fp)) ht he hs) (lcL_use own)
/-- .. a tuple -/
theorem lcT_use (own : List (Str × Nat)) : ∀ (σ : L2.St) (H : Hp) (Q : VK), tE X.K N W (bnd f fun x => lcV itemsT t (own.map (·.2)) tt te x) σ H Q → tLc (iTup X.K (tE X.K N W f)) (gC X.K N (own.map (·.2)) t) (tT X.K N W0 tt) (tE X.K N W0 te) (own.map (·.2)) σ H Q :=
  fun σ H Q ⟨ρ, R, r, h⟩ => ⟨ρ, R, r, Pst.bnd' .refl h fun x ρ1 v H1 R1 s1 _ r1 e1 h1 => by
    unfold lcV at h1
    rcases frz_ok s1 r1 e1 with e | ⟨p, ρ2, R2, e, s2, r2, rp, sb, _⟩
    · simp only [bnd, e] at h1
      exact h1.elim
    · simp only [bnd, e] at h1
      cases e3 : itemsT p with
      | none => rw [e3] at h1; exact h1.elim
      | some ps =>
        rw [e3] at h1
        obtain ⟨a, us, rfl, hl, rps⟩ : ∃ a us, v = V.ref a ∧ (∀ H', (∀ b o, R2 b = some o → H' b = some o) → SqT X.K H' a us) ∧ Reps X.K N R2 ps us := by
          cases rp with
          | tup q w => cases e3; exact ⟨_, _, rfl, fun H' k => Sub.tup k q, w⟩
          | lst => cases e3
          | scr => cases e3
          | «at» => cases e3
          | ins => cases e3
          | exc => cases e3
          | excF => cases e3
          | dct => cases e3
        refine ⟨a, rfl, ⟨us, hl H1 r2.sub⟩, ?_⟩
        exact lc_seq (J := Itt X.K a) (S := fun H' => SqT X.K H' a us) s2 r2 rps (fun i H x S hx => ⟨us, x, S, hx⟩) (fun H S => ⟨us, S, Nat.le_refl _⟩)
          (fun i H x H' u S hu y => ⟨y.1, by have := y.2 us S; rw [hu] at this; cases this; rfl⟩) hl h1⟩
theorem be_lcT (own : List (Str × Nat)) (hc : X.calm = true) (hN : X.N.Nodup) (hi : BE X N W iter f) (ok : BlkOk X.N X.env.scope scope own)
    (hg : ∀ (s : Shared) (H : Hp) (C : Addr) (cl : List (Str × Addr)) (fp : List Addr), ∀ P, (∀ i ∈ own.map (·.2), i ∉ P) → BG (X.blk s H scope (compEnvC scope cl C X.env) fp) N P tg t)
    (ht : ∀ (s : Shared) (H : Hp) (C : Addr) (cl : List (Str × Addr)) (fp : List Addr), BTs (X.blk s H scope (compEnvC scope cl C X.env) fp) N W0 ifs tt)
    (he : ∀ (s : Shared) (H : Hp) (C : Addr) (cl : List (Str × Addr)) (fp : List Addr), BE (X.blk s H scope (compEnvC scope cl C X.env) fp) N W0 elt te) (hs : ∀ x, foldedSetIterable iter X.env x = pure x := by intro _; rfl) :
    BE X N W (.ListComp elt [⟨tg, iter, ifs, 0⟩] scope pos) (bnd f fun x => lcV itemsT t (own.map (·.2)) tt te x) :=
  pe_weak (pe_lc (g := gC X.K N (own.map (·.2)) t) (tt := tT X.K N W0 tt) (te := tE X.K N W0 te) hc hN (pi_tup hi) ok (fun s H C cl fp => bgc (hg s H C cl fp)) ht he hs) (lcT_use own)
/-- .. range(n) -/
theorem lcR1_use {fa : M (List EV)} (own : List (Str × Nat)) : ∀ (σ : L2.St) (H : Hp) (Q : VK), tE X.K N W (bnd fa fun xs => lcR1 t (own.map (·.2)) tt te xs) σ H Q → tLc (iRng1 (tA X.K N W fa)) (gC X.K N (own.map (·.2)) t) (tT X.K N W0 tt) (tE X.K N W0 te) (own.map (·.2)) σ H Q :=
  fun σ H Q ⟨ρ, R, r, h⟩ => ⟨ρ, R, r, Pst.bnd' .refl h fun xs ρ1 v H1 R1 s1 _ r1 e1 h1 => by
    unfold lcR1 at h1
    split at h1
    · rename_i j
      obtain ⟨v, rfl, e2⟩ := evs1 e1
      split at h1
      · rename_i hj
        cases (show Rep X.K N R1 (.at (.int j)) v from e2)
        have hj := smallI_ok hj
        have ln : (rngL 0 j).length = j.toNat := by simp [rngL]
        refine ⟨j, rfl, hj.1, hj.2, ?_⟩
        exact lc_run (K := X.K) (N := N) (t := t) (tt := tt) (te := te) (J := Itr 0 j.toNat) s1 r1 (lcN_use h1).1 (fun H' R' _ _ => by rw [ln]; exact Nat.le_refl _) (fun i H' R' _ _ hi => by rw [ln] at hi; exact hi)
          (fun i H' R' x H'' p _ _ hp y => by
            obtain ⟨y1, y2⟩ := y
            have hi := (List.getElem?_eq_some_iff.mp hp).1
            rw [ln] at hi
            rw [rng_get (by simpa using hi)] at hp
            cases hp
            subst y2
            exact ⟨y1, .at _⟩) (lcN_use h1).2
      · exact h1.elim
    · exact h1.elim⟩
theorem be_lcR1 {a : Expr} {p pos0 : Pos} {fa : M (List EV)} (own : List (Str × Nat)) (hc : X.calm = true) (hN : X.N.Nodup) (hgl : Gl X "range") (hm : X.mg "range" = none) (ha : BA X N W [a] fa) (ok : BlkOk X.N X.env.scope scope own)
    (hg : ∀ (s : Shared) (H : Hp) (C : Addr) (cl : List (Str × Addr)) (fp : List Addr), ∀ P, (∀ i ∈ own.map (·.2), i ∉ P) → BG (X.blk s H scope (compEnvC scope cl C X.env) fp) N P tg t)
    (ht : ∀ (s : Shared) (H : Hp) (C : Addr) (cl : List (Str × Addr)) (fp : List Addr), BTs (X.blk s H scope (compEnvC scope cl C X.env) fp) N W0 ifs tt)
    (he : ∀ (s : Shared) (H : Hp) (C : Addr) (cl : List (Str × Addr)) (fp : List Addr), BE (X.blk s H scope (compEnvC scope cl C X.env) fp) N W0 elt te)
    (hs0 : starEach [a] X.env = [(false, eval a X.env)] := by rfl) (hs : ∀ x, foldedSetIterable (.Call (.Name "range" p) [a] [] pos0) X.env x = pure x := by intro _; rfl) :
    BE X N W (.ListComp elt [⟨tg, .Call (.Name "range" p) [a] [] pos0, ifs, 0⟩] scope pos) (bnd fa fun xs => lcR1 t (own.map (·.2)) tt te xs) :=
  pe_weak (pe_lc (g := gC X.K N (own.map (·.2)) t) (tt := tT X.K N W0 tt) (te := tE X.K N W0 te) hc hN (pi_range1 hgl hm ha hs0) ok (fun s H C cl fp => bgc (hg s H C cl fp)) ht he hs) (lcR1_use own)
/-! ### unary minus -/
def sNeg (p : PV) : Option EV := match p with
  | .at (.int i) => some (.fz (.at (.int (-i))))
  | _ => none
def op1 (s : PV → Option EV) (x : EV) : M EV := bnd (deref x) fun p => lift (s p)
theorem be_neg {a : Expr} {f : M EV} (ha : BE X N W a f) : BE X N W (.UnaryOp .USub a pos) (bnd f fun x => op1 sNeg x) :=
  pe_weak (pe_un un_neg ha) fun σ H Q ⟨ρ, R, r, h⟩ => ⟨ρ, R, r, Pst.bnd' .refl h fun x ρ1 v H1 R1 s1 _ r1 e1 h1 => deref_use h1 r1 e1 fun q d h2 => by
    unfold sNeg at h2
    split at h2
    · cases repd_at d
      exact ⟨_, rfl, Pst.give h2 s1 r1 (Gr.refl r1.sub) (.at _)⟩
    · exact h2.elim⟩
end
end B

set_option Elab.async false
set_option linter.all false
set_option maxRecDepth 100000
set_option maxHeartbeats 4000000
/-! B14: is None, len, str, tuple of what is walked -/
namespace B
open PySem L2
section
variable {K : PySem.W.Frag} {N : Nm} {H R : Hp} {p : PV} {x : V}
def isN : PV → Bool
  | .at .non => true
  | _ => false
theorem repd_non (d : RepD K N H R p x) : decide (x = .non) = isN p := by
  cases p with
  | «at» v =>
    cases repd_at d
    cases x <;> simp [isN]
  | tup ps =>
    cases (show Rep K N R (.tup ps) x from d) with
    | tup h q => simp [isN]
  | scr ns =>
    cases (show Rep K N R (.scr ns) x from d) with
    | scr h => simp [isN]
  | lst ps =>
    obtain ⟨a, vs, rfl, _, _⟩ := d
    simp [isN]
  | ins c fs =>
    obtain ⟨a, dx, gs, rfl, _, _⟩ := d
    simp [isN]
  | exc c f =>
    cases (show Rep K N R (.exc c f) x from d) <;> simp [isN]
  | dct ks ps =>
    cases (show Rep K N R (.dct ks ps) x from d) <;> simp [isN]
def sIsN (p q : PV) : Option EV := match q with
  | .at .non => some (.fz (.at (.bl (isN p))))
  | _ => none
def sNotN (p q : PV) : Option EV := match q with
  | .at .non => some (.fz (.at (.bl (!isN p))))
  | _ => none
theorem os_isN : OpS K N (fun x y H Q => y = .non ∧ Q (.bl (decide (x = .non))) H) sIsN := fun H R p q e x y Q sb d1 d2 hs k => by
  unfold sIsN at hs
  split at hs
  · cases hs
    cases repd_at d2
    exact ⟨rfl, k _ H R (Gr.refl sb) (by rw [repd_non d1]; exact .at _)⟩
  · cases hs
theorem os_notN : OpS K N (fun x y H Q => y = .non ∧ Q (.bl (!decide (x = .non))) H) sNotN := fun H R p q e x y Q sb d1 d2 hs k => by
  unfold sNotN at hs
  split at hs
  · cases hs
    cases repd_at d2
    exact ⟨rfl, k _ H R (Gr.refl sb) (by rw [repd_non d1]; exact .at _)⟩
  · cases hs
/-! ### len -/
def sLenL : List PV → Option EV
  | [.lst xs] => some (.fz (.at (.int xs.length)))
  | [.scr xs] => some (.fz (.at (.int xs.length)))
  | [.tup xs] => some (.fz (.at (.int xs.length)))
  | _ => none
theorem cs_lenL : CallS K N (fun xs H Q => ∃ p ys, xs = [.ref p] ∧ (SqL K H p ys ∨ SqT K H p ys) ∧ Q (.int ys.length) H) sLenL := fun H R ps e vs Q sb d hs k => by
  unfold sLenL at hs
  split at hs
  · rename_i xs
    match vs, d with
    | [v], d =>
      cases hs
      obtain ⟨a, us, rfl, h1, h2⟩ := d.1
      exact ⟨a, us, rfl, .inl (.inl (.inl h1)), k _ H R (Gr.refl sb) (by rw [h2.length]; exact .at _)⟩
  · rename_i xs
    match vs, d with
    | [v], d =>
      cases hs
      cases (show Rep K N R (.scr xs) v from d.1) with
      | scr h => exact ⟨_, _, rfl, .inl (sb.seq h), k _ H R (Gr.refl sb) (by rw [List.length_map]; exact .at _)⟩
  · rename_i xs
    match vs, d with
    | [v], d =>
      cases hs
      cases (show Rep K N R (.tup xs) v from d.1) with
      | tup h q => exact ⟨_, _, rfl, .inr (sb.tup h), k _ H R (Gr.refl sb) (by rw [q.length]; exact .at _)⟩
  · cases hs
def sLenS : List PV → Option EV
  | [.at (.str z)] => if z.length ≤ sizeLine then some (.fz (.at (.int z.length))) else none
  | _ => none
theorem cs_lenS : CallS K N (fun xs H Q => ∃ z, xs = [.str z] ∧ z.length ≤ sizeLine ∧ Q (.int z.length) H) sLenS := fun H R ps e vs Q sb d hs k => by
  unfold sLenS at hs
  split at hs
  · rename_i z
    match vs, d with
    | [v], d =>
      split at hs
      · rename_i hz
        cases hs
        cases repd_at d.1
        exact ⟨z, rfl, hz, k _ H R (Gr.refl sb) (.at _)⟩
      · cases hs
  · cases hs
/-! ### str of an int -/
def sStrI : List PV → Option EV
  | [.at (.int i)] => if i.natAbs.log2 < 1920 then some (.fz (.at (.str (toString i)))) else none
  | _ => none
theorem cs_strI : CallS K N (fun xs H Q => ∃ i, xs = [.int i] ∧ i.natAbs.log2 < 1920 ∧ Q (.str (toString i)) H) sStrI := fun H R ps e vs Q sb d hs k => by
  unfold sStrI at hs
  split at hs
  · rename_i i
    match vs, d with
    | [v], d =>
      split at hs
      · rename_i hz
        cases hs
        cases repd_at d.1
        exact ⟨i, rfl, hz, k _ H R (Gr.refl sb) (.at _)⟩
      · cases hs
  · cases hs
/-! ### int of a text -/
def sIntS : List PV → Option EV
  | [.at (.str a)] => if a.length ≤ 640 then (PySem.intText? a).map fun n => .fz (.at (.int n)) else none
  | _ => none
theorem cs_intS : CallS K N (fun xs H Q => ∃ a n, xs = [.str a] ∧ PySem.intText? a = some n ∧ a.length ≤ 640 ∧ Q (.int n) H) sIntS := fun H R ps e vs Q sb d hs k => by
  unfold sIntS at hs
  split at hs
  · rename_i a
    match vs, d with
    | [v], d =>
      split at hs
      · rename_i hz
        cases e1 : PySem.intText? a with
        | none => rw [e1] at hs; cases hs
        | some n =>
          rw [e1] at hs; cases hs
          cases repd_at d.1
          exact ⟨a, n, rfl, e1, hz, k _ H R (Gr.refl sb) (.at _)⟩
      · cases hs
  · cases hs
/-! ### a call rule of two -/
theorem CallS.or {r r' : List V → Hp → VK → Prop} {s s' : List PV → Option EV} (h : CallS K N r s) (h' : CallS K N r' s') : CallS K N (fun xs H Q => r xs H Q ∨ r' xs H Q) (fun ps => match s ps with
    | some e => some e
    | none => s' ps) := fun H R ps e vs Q sb d hs k => by
  dsimp only at hs
  split at hs
  · rename_i z hz
    cases hs
    exact .inl (h H R ps _ vs Q sb d hz k)
  · exact .inr (h' H R ps e vs Q sb d hs k)
theorem CallR.or_ {X : Cx} {f : Value} {r r' : List V → Hp → VK → Prop} (h : CallR X f r) (h' : CallR X f r') : CallR X f (fun xs H Q => r xs H Q ∨ r' xs H Q) := fun pins s σ H xs us Q I v q => q.elim (h pins s σ H xs us Q I v) (h' pins s σ H xs us Q I v)
def sLen : List PV → Option EV := fun ps => match sLenL ps with
  | some e => some e
  | none => sLenS ps
theorem cs_len : CallS K N (fun xs H Q => (∃ p ys, xs = [.ref p] ∧ (SqL K H p ys ∨ SqT K H p ys) ∧ Q (.int ys.length) H) ∨ ∃ z, xs = [.str z] ∧ z.length ≤ sizeLine ∧ Q (.int z.length) H) sLen := cs_lenL.or cs_lenS
theorem call_lenB {X : Cx} : CallR X (.builtin "len") (fun xs H Q => (∃ p ys, xs = [.ref p] ∧ (SqL X.K H p ys ∨ SqT X.K H p ys) ∧ Q (.int ys.length) H) ∨ ∃ z, xs = [.str z] ∧ z.length ≤ sizeLine ∧ Q (.int z.length) H) := B.CallR.or_ call_len_seq call_len_str
end
end B

set_option Elab.async false
set_option linter.all false
set_option maxRecDepth 100000
set_option maxHeartbeats 4000000
/-! B15: methods of lists of one's own, of texts -/
namespace B
open PySem L2
section
variable {X : Cx} {N : Nm} {W : WX} {e o : Expr} {es : List Expr} {f g : M EV} {fs : M (List EV)} {p apos cpos : Pos}
def hasO (j : Nat) : M Unit := fun ρ => match ρ[j]? with
  | some (some (.ow _)) => .ok () ρ
  | _ => .no
def apM (j : Nat) (xs : List EV) : M EV := match xs with
  | [v] => bnd (frz v) fun q ρ => match ρ[j]? with
    | some (some (.ow ys)) => if ys.length < sizeLine then .ok (.fz (.at .non)) (ρ.set j (some (.ow (ys ++ [q])))) else .no
    | _ => .no
  | _ => no
/-- xs.append(e), xs a name whose list is one's own -/
theorem be_append (j : Nat) {y : Str} (ha : BA X N W (e :: es) fs) (hN : X.N[j]? = some y := by rfl) (hvs : Vis X.env.scope y := by first | exact Or.inl rfl | exact Or.inr (Or.inl rfl) | exact Or.inr (Or.inr rfl))
    (hd : (y == ("__debug__" : Str)) = false := by decide) (hcd : (y == ("__classdict__" : Str)) = false := by decide)
    (hbase : attributeBase (.Name y p) "append" X.env (eval (.Name y p) X.env) = eval (.Name y p) X.env := by rfl)
    (hfew : ((backTo cpos (starEach (e :: es) X.env)).all (fun x => !x.1) && (backToKw cpos (keywordEach [] X.env)).all (fun x => x.1.isSome)
      && decide ((e :: es).length + ([] : List Keyword).length + (if ([] : List Keyword).isEmpty then 0 else 1) < 30)) = true := by rfl)
    (hline : (apos.endLine == cpos.line) = true := by rfl) (hs : starEach (e :: es) X.env = (false, eval e X.env) :: starEach es X.env := by rfl) (hpl : (backTo cpos (starEach es X.env)).any (·.1) = false := by rfl) :
    BE X N W (.Call (.Attribute (.Name y p) "append" apos) (e :: es) [] cpos) (bnd (hasO j) fun _ => bnd fs fun xs => apM j xs) :=
  pe_weak (pe_bm PySem.F.plainAttrs_list PySem.F.slot_list_append PySem.F.type_list_append mt_append (pe_var hN hvs hd hcd) ha hbase hfew hline hs hpl) fun σ H Q ⟨ρ, R, r, h⟩ => by
    unfold hasO at h
    simp only [bnd] at h
    cases e0 : ρ[j]? with
    | none => rw [e0] at h; exact h.elim
    | some oo =>
      cases oo with
      | none => rw [e0] at h; exact h.elim
      | some s =>
        cases s with
        | fz _ => rw [e0] at h; exact h.elim
        | oi _ _ => rw [e0] at h; exact h.elim
        | ow ys =>
          rw [e0] at h
          obtain ⟨v, g1, a, vs, rfl, hH, reps, hR⟩ := r.at_ j _ e0
          have h' : Pst X.K N (EvR X.K N) W (bnd fs (fun xs => apM j xs) ρ) σ H R ρ Q := h
          refine ⟨.ref a, g1, .inl ⟨rfl, vs, .inl (.inl hH)⟩, ρ, R, r, Pst.bnd' .refl h' fun xs ρ1 us H1 R1 s1 _ r1 e1 h1 => ?_⟩
          unfold apM at h1
          split at h1
          · rename_i x
            obtain ⟨u, rfl, e2⟩ := evs1 e1
            rcases frz_ok s1 r1 e2 with e3 | ⟨q, ρ2, R2, e3, s2, r2, rp, sb, _⟩
            · simp only [bnd, e3] at h1
              exact h1.elim
            · simp only [bnd, e3] at h1
              cases e4 : ρ2[j]? with
              | none => rw [e4] at h1; exact h1.elim
              | some oo =>
                cases oo with
                | none => rw [e4] at h1; exact h1.elim
                | some s =>
                  cases s with
                  | fz _ => rw [e4] at h1; exact h1.elim
                  | oi _ _ => rw [e4] at h1; exact h1.elim
                  | ow zs =>
                    rw [e4] at h1
                    dsimp only at h1
                    by_cases hl : zs.length < sizeLine
                    · rw [if_pos hl] at h1
                      obtain ⟨v', g1', a', vs', e5, g3, g4, g5⟩ := r2.at_ j _ e4
                      rw [g1] at g1'
                      cases g1'
                      cases e5
                      refine ⟨a, vs', u, rfl, rfl, g3, by rw [← g4.length]; exact hl, ?_⟩
                      obtain ⟨b1, b2⟩ := change_ok (o := .lst (vs' ++ [u])) (s' := .ow (zs ++ [q])) s2 r2 e4 rfl g1 rfl ⟨a, _, rfl, upd_same, g4.append (.cons rp .nil), g5⟩ (fun d q => by
                        rw [upd_ne]; · exact q
                        · rintro rfl; rw [g3] at q; cases q)
                      exact h1 .non _ R2 b1 b2 (.at _)
                    · rw [if_neg hl] at h1
                      exact h1.elim
          · exact h1.elim
/-! ### a text's method with one argument -/
def isS (x : EV) : M Unit := bnd (deref x) fun p => match p with
  | .at (.str _) => pur ()
  | _ => no
def txts : List PV → Option (List Str)
  | [] => some []
  | .at (.str z) :: ps => (txts ps).map (z :: ·)
  | _ => none
def sSplit : PV → PV → Option EV
  | .at (.str a), .at (.str b) => if (b.length == 0) = false ∧ a.length + 2 ≤ sizeLine then some (.nw (.ow ((Txt.split a b).map fun z => .at (.str z)))) else none
  | _, _ => none
def sJoin : PV → PV → Option EV
  | .at (.str a), .lst ps => match txts ps with
    | some ys => if (ys.map (·.length)).sum + ys.length * a.length ≤ 16777216 then some (.fz (.at (.str (Txt.join a ys)))) else none
    | none => none
  | _, _ => none
theorem txts_reps {K : PySem.W.Frag} {R : Hp} : ∀ {ps : List PV} {ys : List Str} {vs : List V}, txts ps = some ys → Reps K N R ps vs → vs = ys.map V.str
  | [], ys, vs, e, r => by
    cases r
    cases e
    rfl
  | p :: ps, ys, vs, e, r => by
    cases r with
    | cons r1 r2 =>
      cases p with
      | «at» w =>
        cases w with
        | str z =>
          unfold txts at e
          cases h : txts ps with
          | none => rw [h] at e; cases e
          | some zs =>
            rw [h] at e
            cases e
            cases r1
            rw [txts_reps h r2]
            rfl
        | _ => simp [txts] at e
      | _ => simp [txts] at e
theorem reps_strs {K : PySem.W.Frag} {R : Hp} : ∀ ys : List Str, Reps K N R (ys.map fun z => PV.at (.str z)) (ys.map V.str)
  | [] => .nil
  | y :: ys => .cons (.at _) (reps_strs ys)
theorem os_split {K : PySem.W.Frag} : OpS K N (fun x y H Q => ∃ a b, x = .str a ∧ [y] = [.str b] ∧ (b.length == 0) = false ∧ a.length + 2 ≤ sizeLine ∧ rNewStrs (Txt.split a b) H Q) sSplit := fun H R p q e x y Q sb d1 d2 hs k => by
  unfold sSplit at hs
  split at hs
  · rename_i a b
    split at hs
    · rename_i h
      cases hs
      cases repd_at d1; cases repd_at d2
      refine ⟨a, b, rfl, rfl, h.1, h.2, fun l nl => ?_⟩
      exact k _ _ _ (Gr.new_ sb nl) ⟨rfl, ⟨l, _, rfl, upd_same, reps_strs _, rnone_of sb nl⟩, l, rfl, nl⟩
    · cases hs
  · cases hs
theorem os_join {K : PySem.W.Frag} : OpS K N (fun x y H Q => ∃ a p, ∃ ys : List Str, x = .str a ∧ [y] = [.ref p] ∧ (SqL K H p (ys.map V.str) ∨ SqT K H p (ys.map V.str)) ∧ (ys.map (·.length)).sum + ys.length * a.length ≤ 16777216 ∧ Q (.str (Txt.join a ys)) H) sJoin := fun H R p q e x y Q sb d1 d2 hs k => by
  unfold sJoin at hs
  split at hs
  · rename_i a ps
    split at hs
    · rename_i ys h
      split at hs
      · rename_i hz
        cases hs
        cases repd_at d1
        obtain ⟨l, vs, rfl, h1, h2⟩ := d2
        have e := txts_reps h h2
        subst e
        exact ⟨a, l, ys, rfl, rfl, .inl (.inl (.inl h1)), hz, k _ H R (Gr.refl sb) (.at _)⟩
      · cases hs
    · cases hs
  · cases hs
/-- x.m(y), x a text -/
theorem m1_ok {r : V → List V → Hp → VK → Prop} {s : PV → PV → Option EV} (hs : OpS X.K N (fun x y H Q => r x [y] H Q) s) {σ : St} {H : Hp} {Q : VK} (h : tE X.K N W (bnd f fun x => bnd (isS x) fun _ => bnd g fun y => op2 s x y) σ H Q) : tM1 r (tE X.K N W f) (tE X.K N W g) σ H Q := by
  obtain ⟨ρ, R, r0, h⟩ := h
  refine ⟨ρ, R, r0, Pst.bnd h fun x ρ1 v H1 R1 s1 r1 e1 h1 => ?_⟩
  unfold isS at h1
  rcases deref_ok r1 e1 with ⟨p, e2, d⟩ | e2
  · simp only [bnd, e2] at h1
    cases p with
    | «at» z =>
      cases z with
      | str a =>
        cases repd_at d
        have h2 : Pst X.K N (EvR X.K N) W (bnd g (fun y => op2 s x y) ρ1) σ H R ρ Q := h1
        exact ⟨⟨a, rfl⟩, ρ1, R1, r1, Pst.bnd (h2.laterE s1) fun y ρ2 u H2 R2 s2 r2 e3 h3 => op2_ok hs h3 s2 r2 (e1.mono s2) e3⟩
      | _ => exact h1.elim
    | _ => exact h1.elim
  · simp only [bnd, e2] at h1
    exact h1.elim
theorem be_split (ho : BE X N W o f) (he : BE X N W e g) (hs : starEach [e] X.env = [(false, eval e X.env)] := by rfl) (hbase : attributeBase o "split" X.env (eval o X.env) = eval o X.env := by rfl) (hline : (apos.endLine == p.line) = true := by rfl) :
    BE X N W (.Call (.Attribute o "split" apos) [e] [] p) (bnd f fun x => bnd (isS x) fun _ => bnd g fun y => op2 sSplit x y) := pe_weak (pe_split ho he hs hbase hline) fun σ H Q h => m1_ok os_split h
theorem be_join (ho : BE X N W o f) (he : BE X N W e g) (hs : starEach [e] X.env = [(false, eval e X.env)] := by rfl) (hbase : attributeBase o "join" X.env (eval o X.env) = eval o X.env := by rfl) (hline : (apos.endLine == p.line) = true := by rfl) :
    BE X N W (.Call (.Attribute o "join" apos) [e] [] p) (bnd f fun x => bnd (isS x) fun _ => bnd g fun y => op2 sJoin x y) := pe_weak (pe_join ho he hs hbase hline) fun σ H Q h => m1_ok os_join h
end
end B

set_option Elab.async false
set_option linter.all false
set_option maxRecDepth 100000
set_option maxHeartbeats 4000000
/-! B16: in, tuples of lists -/
namespace B
open PySem L2
section
variable {K : PySem.W.Frag} {N : Nm} {H R : Hp}
def ats : List PV → Option (List V)
  | [] => some []
  | .at v :: ps => (ats ps).map (v :: ·)
  | _ => none
theorem ats_reps : ∀ {ps : List PV} {ys vs : List V}, ats ps = some ys → Reps K N R ps vs → vs = ys
  | [], ys, vs, e, r => by
    cases r
    cases e
    rfl
  | p :: ps, ys, vs, e, r => by
    cases r with
    | cons r1 r2 =>
      cases p with
      | «at» w =>
        unfold ats at e
        cases h : ats ps with
        | none => rw [h] at e; cases e
        | some zs =>
          rw [h] at e
          cases e
          cases r1
          rw [ats_reps h r2]
      | _ => simp [ats] at e
def itemsF : PV → Option (List V)
  | .lst ps => ats ps
  | .tup ps => ats ps
  | .scr ns => some (ns.map V.int)
  | _ => none
def sIn (neg : Bool) (p q : PV) : Option EV := match p, itemsF q with
  | .at v, some vs => if flatV v = true ∧ vs.all flatV = true then some (.fz (.at (.bl (if neg then !inV v vs else inV v vs)))) else none
  | _, _ => none
theorem os_in {neg : Bool} : OpS K N (rIn K neg) (sIn neg) := fun H R p q e x y Q sb d1 d2 hs k => by
  unfold sIn at hs
  split at hs
  · rename_i v vs hv
    split at hs
    · rename_i h
      cases hs
      cases repd_at d1
      obtain ⟨l, rfl, hq⟩ : ∃ l, y = .ref l ∧ (SqL K H l vs ∨ SqT K H l vs) := by
        unfold itemsF at hv
        split at hv
        · obtain ⟨l, us, rfl, h1, h2⟩ := d2
          have e := ats_reps hv h2
          subst e
          exact ⟨l, rfl, .inl (.inl (.inl h1))⟩
        · rename_i ps
          cases (show Rep K N R (.tup ps) y from d2) with
          | tup h1 h2 =>
            have e := ats_reps hv h2
            subst e
            exact ⟨_, rfl, .inr (sb.tup h1)⟩
        · rename_i ns
          cases hv
          cases (show Rep K N R (.scr ns) y from d2) with
          | scr h1 => exact ⟨_, rfl, .inl (sb.seq h1)⟩
        · cases hv
      exact ⟨l, vs, rfl, hq, h.1, h.2, k _ H R (Gr.refl sb) (.at _)⟩
    · cases hs
  · cases hs
/-! ### tuple(xs) -/
def sTupL : List PV → Option EV
  | [.lst ps] => some (.fz (.tup ps))
  | [.scr ns] => some (.fz (.tup (ns.map PV.int)))
  | [.tup ps] => some (.fz (.tup ps))
  | _ => none
theorem cs_tupL : CallS K N (fun xs H Q => ∃ p ys, xs = [.ref p] ∧ ((SqL K H p ys ∧ ∀ l, H l = none → Q (.ref l) (upd H l (.tup ys))) ∨ (SqT K H p ys ∧ Q (.ref p) H))) sTupL := fun H R ps e vs Q sb d hs k => by
  unfold sTupL at hs
  split at hs
  · rename_i xs
    match vs, d with
    | [v], d =>
      cases hs
      obtain ⟨a, us, rfl, h1, h2⟩ := d.1
      exact ⟨a, us, rfl, .inl ⟨.inl (.inl h1), fun l nl => k _ _ _ (Gr.add sb nl) (.tup (.inl (.inl upd_same)) (h2.mono (Gr.add (o := .tup us) sb nl).sub))⟩⟩
  · rename_i ns
    match vs, d with
    | [v], d =>
      cases hs
      cases (show Rep K N R (.scr ns) v from d.1) with
      | scr h => exact ⟨_, _, rfl, .inl ⟨sb.seq h, fun l nl => k _ _ _ (Gr.add sb nl) (.tup (.inl (.inl upd_same)) (Reps.ints ns))⟩⟩
  · rename_i xs
    match vs, d with
    | [v], d =>
      cases hs
      cases (show Rep K N R (.tup xs) v from d.1) with
      | tup h q => exact ⟨_, _, rfl, .inr ⟨sb.tup h, k _ H R (Gr.refl sb) (.tup h q)⟩⟩
  · cases hs
end
end B

set_option Elab.async false
set_option linter.all false
set_option maxRecDepth 100000
set_option maxHeartbeats 4000000
/-! B17: n += e -/
namespace B
open PySem L2
section
variable {X : Cx} {N : Nm} {W : WX} {P : List Nat} {e : Expr} {pos : Pos} {f : M EV}
def augS (s : PV → PV → Option EV) (i : Nat) (f : M EV) : MS := fun ρ => match ρ[i]? with
  | some (some (.fz (.at (.int a)))) => doS f (fun y => doS (op2 s (.fz (.at (.int a))) y) fun z => setS false i z) ρ
  | _ => .no
theorem bs_augI {op : Operator} {g : Int → Int → Int} (i : Nat) {x : Str} {pos' : Pos} (hN : X.N.Nodup) (he : BE X N W e f) (ho : PIp X op (ipI g)) (hp : i ∉ P := by decide) (hi : X.N[i]? = some x := by rfl) (hx : Loc X.env.scope x := by first | exact Or.inl rfl | exact Or.inr rfl)
    (hf : X.fn x = true ∨ X.env.scope.names.lookup x = some .local := by first | exact .inl rfl | exact .inr rfl | assumption) : BS X N W P (.AugAssign (.Name x pos') op e pos) (augS (sI fun i j => .int (g i j)) i f) :=
  ps_weak (ps_aug hN hi hx he ho hf) fun D σ H ⟨ρ, R, r, h⟩ => by
    unfold augS at h
    split at h
    · rename_i a e0
      obtain ⟨v, g1, g2⟩ := r.at_ i _ e0
      cases (show Rep X.K N R (.at (.int a)) v from g2)
      refine ⟨.int a, g1, ρ, R, r, PsS.doE (fun _ _ _ z => z) h fun y ρ1 u H1 R1 s1 r1 e1 h1 => ?_⟩
      rcases deref_ok r1 e1 with ⟨q, e2, d⟩ | e2
      · have eo : op2 (sI fun i j => .int (g i j)) (.fz (.at (.int a))) y ρ1 = lift (sI (fun i j => .int (g i j)) (.at (.int a)) q) ρ1 := by
          show bnd (deref y) (fun q => lift (sI (fun i j => .int (g i j)) (.at (.int a)) q)) ρ1 = _
          simp only [bnd, e2]
        unfold doS at h1
        rw [eo] at h1
        cases q with
        | «at» w =>
          cases w with
          | int b =>
            cases repd_at d
            exact ⟨a, b, rfl, rfl, setS_ok hp s1 r1 (show EvR X.K N H H1 R1 ρ1 σ (.fz (.at (.int (g a b)))) (.int (g a b)) from .at _) h1⟩
          | _ => exact h1.elim
        | _ => exact h1.elim
      · have eo : op2 (sI fun i j => .int (g i j)) (.fz (.at (.int a))) y ρ1 = .no := by
          show bnd (deref y) (fun q => lift (sI (fun i j => .int (g i j)) (.at (.int a)) q)) ρ1 = _
          simp only [bnd, e2]
        unfold doS at h1
        rw [eo] at h1
        exact h1.elim
    · exact h.elim
end
end B

set_option Elab.async false
set_option linter.all false
set_option maxRecDepth 100000
set_option maxHeartbeats 4000000
/-! B18: a def that calls itself: by fuel -/
namespace B
open PySem L2
section
variable {X : Cx} {N : Nm} {W : WX} {P : List Nat} {body : List Stmt}
/-- a body of which nothing is told -/
theorem bss_never : BSs X N W P body (fun _ => .no) := ⟨fun pins s σ H D I ⟨ρ, R, r, h⟩ => h.elim⟩
end
/-- g by fuel: n the parameters, m the names, those at P one's own -/
def recB (n m : Nat) (P : List Nat) (g : Fn → MS) : Nat → Fn
  | 0 => fnB n m P (fun _ => .no)
  | k + 1 => fnB n m P (g (recB n m P g k))
section
variable {Pg : Program} {w : World} {K : PySem.W.Frag} {mg : Str → Option Value} {base : Heap} {N : Nm}
/-- what a body needs at level k -/
abbrev BodyAt (Pg : Program) (w : World) (K : PySem.W.Frag) (mg : Str → Option Value) (base : Heap) (N : Nm) (x : Str) (st : Stmt) (Nn : List Str) (P : List Nat) (k : Nat) (g : MS) : Prop :=
  ∀ (f : Addr) (cdv : Value) (A : Around) (outer : List PySem.Env) (s : Shared) (H : Hp) (E : XK), RmG k (A.deeper (PyProof.Rows.envOfC x (defScope st) s.heap.objs.size f cdv)) →
      Takes (cxOf (L2.CX Pg w) Pg w K mg base Nn x (defScope st) f cdv A outer s H E) (fun c d _ H' => E c d H') → PassesOwn (model Pg w) (A.deeper (PyProof.Rows.envOfC x (defScope st) s.heap.objs.size f cdv)) (PyProof.Rows.envOfC x (defScope st) s.heap.objs.size f cdv) (cxOf (L2.CX Pg w) Pg w K mg base Nn x (defScope st) f cdv A outer s H E).xe →
      BSs (cxOf (L2.CX Pg w) Pg w K mg base Nn x (defScope st) f cdv A outer s H E) N (fun c d _ H' => E c d H') P (defBody st) g
theorem gf_rec {x : Str} {st : Stmt} {Nn ps : List Str} {j : Nat} {P : List Nat} {g : Fn → MS} (D : GD K x x st (fun f => mg x = some (.ref f))) (S : FnScope Nn ps (defScope st))
    (hb : ∀ (kV doc pm : Value) (an : Option Addr) (cdv ct : Value) (us : List Value), us.length = ps.length → bindArgs (PySem.W.fnOf x x (defArgs st) (defBody st) (defScope st) .none kV doc pm an cdv ct) ⟨us, []⟩ = pure (ps.zip us))
    (body : ∀ (n : Nat) (F : Fn), GF Pg w K mg base N x (j + 1 + n) ps.length F → BodyAt Pg w K mg base N x st Nn P (j + 1 + n) (g F)) : ∀ n, GF Pg w K mg base N x (j + 1 + n) ps.length (recB ps.length Nn.length P g n)
  | 0 => gf_mk (k := j) D S hb fun _ _ _ _ _ _ _ _ _ _ => bss_never
  | n + 1 => gf_mk (k := j + 1 + n) D S hb (body n _ (gf_rec D S hb body n))
end
end B

set_option Elab.async false
set_option linter.all false
set_option maxRecDepth 100000
set_option maxHeartbeats 4000000
/-! B19: xs.pop(), list(xs) -/
namespace B
open PySem L2
section
variable {X : Cx} {N : Nm} {W : WX} {p apos cpos : Pos}
def popM (j : Nat) : M EV := fun ρ => match ρ[j]? with
  | some (some (.ow ys)) => (match ys[ys.length - 1]? with
    | some q => .ok (.fz q) (ρ.set j (some (.ow ys.dropLast)))
    | none => .no)
  | _ => .no
theorem be_pop (j : Nat) {y : Str} (hN : X.N[j]? = some y := by rfl) (hvs : Vis X.env.scope y := by first | exact Or.inl rfl | exact Or.inr (Or.inl rfl) | exact Or.inr (Or.inr rfl))
    (hd : (y == ("__debug__" : Str)) = false := by decide) (hcd : (y == ("__classdict__" : Str)) = false := by decide)
    (hbase : attributeBase (.Name y p) "pop" X.env (eval (.Name y p) X.env) = eval (.Name y p) X.env := by rfl) (hline : (apos.endLine == cpos.line) = true := by rfl) :
    BE X N W (.Call (.Attribute (.Name y p) "pop" apos) [] [] cpos) (popM j) :=
  pe_weak (pe_bm0 PySem.F.plainAttrs_list PySem.F.slot_list_pop PySem.F.type_list_pop mt_pop (pe_var hN hvs hd hcd) hbase hline) fun σ H Q ⟨ρ, R, r, h⟩ => by
    unfold popM at h
    split at h
    · rename_i ys e0
      split at h
      · rename_i q e1
        obtain ⟨v, g1, a, vs, rfl, hH, reps, hR⟩ := r.at_ j _ e0
        obtain ⟨u, e2, rq⟩ := reps.get e1
        refine ⟨.ref a, g1, .inl ⟨rfl, vs, .inl (.inl hH)⟩, a, vs, u, rfl, rfl, hH, by rw [← reps.length]; exact e2, ?_⟩
        have rd : Reps X.K N R ys.dropLast vs.dropLast := by
          rw [List.dropLast_eq_take, List.dropLast_eq_take, ← reps.length]
          exact reps.take _
        obtain ⟨b1, b2⟩ := change_ok (o := .lst vs.dropLast) (s' := .ow ys.dropLast) .refl r e0 rfl g1 rfl ⟨a, _, rfl, upd_same, rd, hR⟩ (fun d q => by
          rw [upd_ne]; · exact q
          · rintro rfl; rw [hH] at q; cases q)
        exact h u _ R b1 b2 rq
      · exact h.elim
    · exact h.elim
/-- list(xs) -/
def sListL : List PV → Option EV
  | [.lst ps] => some (.nw (.ow ps))
  | [.scr ns] => some (.nw (.ow (ns.map PV.int)))
  | [.tup ps] => some (.nw (.ow ps))
  | _ => none
theorem cs_listL {K : PySem.W.Frag} : CallS K N (fun xs H Q => ∃ p ys, xs = [.ref p] ∧ (SqL K H p ys ∨ SqT K H p ys) ∧ ∀ l, H l = none → Q (.ref l) (upd H l (.lst ys))) sListL := fun H R ps e vs Q sb d hs k => by
  unfold sListL at hs
  split at hs
  · rename_i xs
    match vs, d with
    | [v], d =>
      cases hs
      obtain ⟨a, us, rfl, h1, h2⟩ := d.1
      exact ⟨a, us, rfl, .inl (.inl (.inl h1)), fun l nl => k _ _ _ (Gr.new_ sb nl) ⟨rfl, ⟨l, _, rfl, upd_same, h2, rnone_of sb nl⟩, l, rfl, nl⟩⟩
  · rename_i ns
    match vs, d with
    | [v], d =>
      cases hs
      cases (show Rep K N R (.scr ns) v from d.1) with
      | scr h => exact ⟨_, _, rfl, .inl (sb.seq h), fun l nl => k _ _ _ (Gr.new_ sb nl) ⟨rfl, ⟨l, _, rfl, upd_same, Reps.ints ns, rnone_of sb nl⟩, l, rfl, nl⟩⟩
  · rename_i xs
    match vs, d with
    | [v], d =>
      cases hs
      cases (show Rep K N R (.tup xs) v from d.1) with
      | tup h q => exact ⟨_, _, rfl, .inr (sb.tup h), fun l nl => k _ _ _ (Gr.new_ sb nl) ⟨rfl, ⟨l, _, rfl, upd_same, q, rnone_of sb nl⟩, l, rfl, nl⟩⟩
  · cases hs
end
end B

set_option Elab.async false
set_option linter.all false
set_option maxRecDepth 100000
set_option maxHeartbeats 4000000
/-! B20: xs.pop(i) -/
namespace B
open PySem L2
theorem Reps.erase {K : PySem.W.Frag} {N : Nm} {R : Hp} : ∀ {ps : List PV} {vs : List V} (k : Nat), Reps K N R ps vs → Reps K N R (ps.eraseIdx k) (vs.eraseIdx k)
  | [], _, _, h => by cases h; exact .nil
  | p :: ps, _, 0, h => by
    cases h with
    | cons a b => exact b
  | p :: ps, _, k + 1, h => by
    cases h with
    | cons a b => exact .cons a (Reps.erase k b)
section
variable {X : Cx} {N : Nm} {W : WX} {e : Expr} {es : List Expr} {fs : M (List EV)} {p apos cpos : Pos}
def popAtM (j : Nat) (xs : List EV) : M EV := match xs with
  | [.fz (.at (.int i))] => fun ρ => match ρ[j]? with
    | some (some (.ow ys)) => if smallI i then (match seqIndex? i ys.length with
      | some k => (match ys[k]? with
        | some q => .ok (.fz q) (ρ.set j (some (.ow (ys.eraseIdx k))))
        | none => .no)
      | none => .no) else .no
    | _ => .no
  | _ => no
theorem be_popAt (j : Nat) {y : Str} (ha : BA X N W (e :: es) fs) (hN : X.N[j]? = some y := by rfl) (hvs : Vis X.env.scope y := by first | exact Or.inl rfl | exact Or.inr (Or.inl rfl) | exact Or.inr (Or.inr rfl))
    (hd : (y == ("__debug__" : Str)) = false := by decide) (hcd : (y == ("__classdict__" : Str)) = false := by decide)
    (hbase : attributeBase (.Name y p) "pop" X.env (eval (.Name y p) X.env) = eval (.Name y p) X.env := by rfl)
    (hfew : ((backTo cpos (starEach (e :: es) X.env)).all (fun x => !x.1) && (backToKw cpos (keywordEach [] X.env)).all (fun x => x.1.isSome)
      && decide ((e :: es).length + ([] : List Keyword).length + (if ([] : List Keyword).isEmpty then 0 else 1) < 30)) = true := by rfl)
    (hline : (apos.endLine == cpos.line) = true := by rfl) (hs : starEach (e :: es) X.env = (false, eval e X.env) :: starEach es X.env := by rfl) (hpl : (backTo cpos (starEach es X.env)).any (·.1) = false := by rfl) :
    BE X N W (.Call (.Attribute (.Name y p) "pop" apos) (e :: es) [] cpos) (bnd (hasO j) fun _ => bnd fs fun xs => popAtM j xs) :=
  pe_weak (pe_bm PySem.F.plainAttrs_list PySem.F.slot_list_pop PySem.F.type_list_pop mt_popAt (pe_var hN hvs hd hcd) ha hbase hfew hline hs hpl) fun σ H Q ⟨ρ, R, r, h⟩ => by
    unfold hasO at h
    simp only [bnd] at h
    cases e0 : ρ[j]? with
    | none => rw [e0] at h; exact h.elim
    | some oo =>
      cases oo with
      | none => rw [e0] at h; exact h.elim
      | some s =>
        cases s with
        | fz _ => rw [e0] at h; exact h.elim
        | oi _ _ => rw [e0] at h; exact h.elim
        | ow ys =>
          rw [e0] at h
          obtain ⟨v, g1, a, vs, rfl, hH, reps, hR⟩ := r.at_ j _ e0
          have h' : Pst X.K N (EvR X.K N) W (bnd fs (fun xs => popAtM j xs) ρ) σ H R ρ Q := h
          refine ⟨.ref a, g1, .inl ⟨rfl, vs, .inl (.inl hH)⟩, ρ, R, r, Pst.bnd' .refl h' fun xs ρ1 us H1 R1 s1 _ r1 e1 h1 => ?_⟩
          unfold popAtM at h1
          split at h1
          · rename_i i
            obtain ⟨u, rfl, e2⟩ := evs1 e1
            cases (show Rep X.K N R1 (.at (.int i)) u from e2)
            split at h1
            · rename_i zs e4
              split at h1
              · rename_i hi
                split at h1
                · rename_i k e5
                  split at h1
                  · rename_i q e6
                    obtain ⟨v', g1', a', vs', e7, g3, g4, g5⟩ := r1.at_ j _ e4
                    rw [g1] at g1'
                    cases g1'
                    cases e7
                    obtain ⟨u, e8, rq⟩ := g4.get e6
                    have hs := smallI_ok hi
                    refine ⟨a, vs', i, k, u, rfl, rfl, g3, by omega, by omega, by rw [← g4.length]; exact e5, e8, ?_⟩
                    obtain ⟨b1, b2⟩ := change_ok (o := .lst (vs'.eraseIdx k)) (s' := .ow (zs.eraseIdx k)) s1 r1 e4 rfl g1 rfl ⟨a, _, rfl, upd_same, Reps.erase k g4, g5⟩ (fun d q => by
                      rw [upd_ne]; · exact q
                      · rintro rfl; rw [g3] at q; cases q)
                    exact h1 u _ R1 b1 b2 rq
                  · exact h1.elim
                · exact h1.elim
              · exact h1.elim
            · exact h1.elim
          · exact h1.elim
end
end B

set_option Elab.async false
set_option linter.all false
set_option maxRecDepth 100000
set_option maxHeartbeats 4000000
/-! B21: max, min, sum, all, any of a list -/
namespace B
open PySem L2
section
variable {K : PySem.W.Frag} {N : Nm}
def intsL : List V → Option (List Int)
  | [] => some []
  | .int i :: vs => (intsL vs).map (i :: ·)
  | _ => none
theorem intsL_eq : ∀ {vs : List V} {ns : List Int}, intsL vs = some ns → vs = ns.map V.int
  | [], ns, e => by cases e; rfl
  | v :: vs, ns, e => by
    cases v with
    | int i =>
      unfold intsL at e
      cases h : intsL vs with
      | none => rw [h] at e; cases e
      | some ms =>
        rw [h] at e
        cases e
        rw [intsL_eq h]
        rfl
    | _ => simp [intsL] at e
def bsL : List V → Option (List Bool)
  | [] => some []
  | .bl i :: vs => (bsL vs).map (i :: ·)
  | _ => none
theorem bsL_eq : ∀ {vs : List V} {ns : List Bool}, bsL vs = some ns → vs = ns.map V.bl
  | [], ns, e => by cases e; rfl
  | v :: vs, ns, e => by
    cases v with
    | bl i =>
      unfold bsL at e
      cases h : bsL vs with
      | none => rw [h] at e; cases e
      | some ms =>
        rw [h] at e
        cases e
        rw [bsL_eq h]
        rfl
    | _ => simp [bsL] at e
/-- the ints of a list -/
def liI : PV → Option (List Int)
  | .lst ps => (ats ps).bind intsL
  | .scr ns => some ns
  | _ => none
def liB : PV → Option (List Bool)
  | .lst ps => (ats ps).bind bsL
  | _ => none
theorem liI_ok {H R : Hp} {p : PV} {v : V} {ns : List Int} (sb : Sub R H) (d : RepD K N H R p v) (e : liI p = some ns) : ∃ a, v = .ref a ∧ SqL K H a (ns.map V.int) := by
  unfold liI at e
  split at e
  · rename_i ps
    obtain ⟨a, us, rfl, h1, h2⟩ := d
    cases h : ats ps with
    | none => rw [h] at e; cases e
    | some ys =>
      rw [h] at e
      have e1 := ats_reps h h2
      subst e1
      have e2 := intsL_eq e
      subst e2
      exact ⟨a, rfl, .inl (.inl h1)⟩
  · cases e
    cases (show Rep K N R (.scr _) v from d) with
    | scr h => exact ⟨_, rfl, sb.seq h⟩
  · cases e
theorem liB_ok {H R : Hp} {p : PV} {v : V} {ns : List Bool} (sb : Sub R H) (d : RepD K N H R p v) (e : liB p = some ns) : ∃ a, v = .ref a ∧ SqL K H a (ns.map V.bl) := by
  unfold liB at e
  split at e
  · rename_i ps
    obtain ⟨a, us, rfl, h1, h2⟩ := d
    cases h : ats ps with
    | none => rw [h] at e; cases e
    | some ys =>
      rw [h] at e
      have e1 := ats_reps h h2
      subst e1
      have e2 := bsL_eq e
      subst e2
      exact ⟨a, rfl, .inl (.inl h1)⟩
  · cases e
def maxI (n : Int) (ns : List Int) : Int := ns.foldl max n
def minI (n : Int) (ns : List Int) : Int := ns.foldl min n
theorem maxI_mem : ∀ (ns : List Int) (n : Int), maxI n ns ∈ n :: ns ∧ ∀ y ∈ n :: ns, y ≤ maxI n ns
  | [], n => by simp [maxI]
  | m :: ns, n => by
    obtain ⟨h1, h2⟩ := maxI_mem ns (max n m)
    have e : maxI n (m :: ns) = maxI (max n m) ns := rfl
    rw [e]
    have h3 := h2 (max n m) (by simp)
    refine ⟨?_, fun y hy => ?_⟩
    · rcases List.mem_cons.mp h1 with z | z
      · rw [z]
        by_cases q : n ≤ m
        · rw [Int.max_eq_right q]; simp
        · rw [Int.max_eq_left (by omega)]; simp
      · simp [z]
    · rcases List.mem_cons.mp hy with z | z
      · omega
      · rcases List.mem_cons.mp z with z | z
        · omega
        · exact h2 y (by simp [z])
theorem minI_mem : ∀ (ns : List Int) (n : Int), minI n ns ∈ n :: ns ∧ ∀ y ∈ n :: ns, minI n ns ≤ y
  | [], n => by simp [minI]
  | m :: ns, n => by
    obtain ⟨h1, h2⟩ := minI_mem ns (min n m)
    have e : minI n (m :: ns) = minI (min n m) ns := rfl
    rw [e]
    have h3 := h2 (min n m) (by simp)
    refine ⟨?_, fun y hy => ?_⟩
    · rcases List.mem_cons.mp h1 with z | z
      · rw [z]
        by_cases q : n ≤ m
        · rw [Int.min_eq_left q]; simp
        · rw [Int.min_eq_right (by omega)]; simp
      · simp [z]
    · rcases List.mem_cons.mp hy with z | z
      · omega
      · rcases List.mem_cons.mp z with z | z
        · omega
        · exact h2 y (by simp [z])
def sMaxL : List PV → Option EV
  | [p] => match liI p with
    | some (n :: ns) => some (.fz (.at (.int (maxI n ns))))
    | _ => none
  | _ => none
def sMinL : List PV → Option EV
  | [p] => match liI p with
    | some (n :: ns) => some (.fz (.at (.int (minI n ns))))
    | _ => none
  | _ => none
def sAll : List PV → Option EV
  | [p] => (liB p).map fun bs => .fz (.at (.bl (bs.all id)))
  | _ => none
def sAny : List PV → Option EV
  | [p] => (liB p).map fun bs => .fz (.at (.bl (bs.any id)))
  | _ => none
def sSum : List PV → Option EV
  | [p] => (liI p).map fun ns => .fz (.at (.int ns.sum))
  | _ => none
theorem one_d {H R : Hp} {p : PV} {vs : List V} (d : RepDs K N H R [p] vs) : ∃ v, vs = [v] ∧ RepD K N H R p v := by
  match vs, d with
  | [v], d => exact ⟨v, rfl, d.1⟩
theorem cs_maxL : CallS K N (rMax K) sMaxL := fun H R ps e vs Q sb d hs k => by
  unfold sMaxL at hs
  split at hs
  · obtain ⟨v, rfl, d1⟩ := one_d d
    split at hs
    · rename_i n ns h
      cases hs
      obtain ⟨a, rfl, hq⟩ := liI_ok sb d1 h
      refine ⟨a, _, rfl, hq, by simp, fun m hm hy => ?_⟩
      obtain ⟨h1, h2⟩ := maxI_mem ns n
      have e : m = maxI n ns := Int.le_antisymm (h2 m hm) (hy _ h1)
      rw [e]
      exact k _ H R (Gr.refl sb) (.at _)
    · cases hs
  · cases hs
theorem cs_minL : CallS K N (rMin K) sMinL := fun H R ps e vs Q sb d hs k => by
  unfold sMinL at hs
  split at hs
  · obtain ⟨v, rfl, d1⟩ := one_d d
    split at hs
    · rename_i n ns h
      cases hs
      obtain ⟨a, rfl, hq⟩ := liI_ok sb d1 h
      refine ⟨a, _, rfl, hq, by simp, fun m hm hy => ?_⟩
      obtain ⟨h1, h2⟩ := minI_mem ns n
      have e : m = minI n ns := Int.le_antisymm (hy _ h1) (h2 m hm)
      rw [e]
      exact k _ H R (Gr.refl sb) (.at _)
    · cases hs
  · cases hs
theorem cs_all : CallS K N (rAll K) sAll := fun H R ps e vs Q sb d hs k => by
  unfold sAll at hs
  split at hs
  · rename_i p
    obtain ⟨v, rfl, d1⟩ := one_d d
    cases h : liB p with
    | none => rw [h] at hs; cases hs
    | some bs =>
      rw [h] at hs; cases hs
      obtain ⟨a, rfl, hq⟩ := liB_ok sb d1 h
      exact ⟨a, _, rfl, hq, k _ H R (Gr.refl sb) (.at _)⟩
  · cases hs
theorem cs_any : CallS K N (rAny K) sAny := fun H R ps e vs Q sb d hs k => by
  unfold sAny at hs
  split at hs
  · rename_i p
    obtain ⟨v, rfl, d1⟩ := one_d d
    cases h : liB p with
    | none => rw [h] at hs; cases hs
    | some bs =>
      rw [h] at hs; cases hs
      obtain ⟨a, rfl, hq⟩ := liB_ok sb d1 h
      exact ⟨a, _, rfl, hq, k _ H R (Gr.refl sb) (.at _)⟩
  · cases hs
theorem cs_sum : CallS K N (rSum K) sSum := fun H R ps e vs Q sb d hs k => by
  unfold sSum at hs
  split at hs
  · rename_i p
    obtain ⟨v, rfl, d1⟩ := one_d d
    cases h : liI p with
    | none => rw [h] at hs; cases hs
    | some bs =>
      rw [h] at hs; cases hs
      obtain ⟨a, rfl, hq⟩ := liI_ok sb d1 h
      exact ⟨a, _, rfl, hq, k _ H R (Gr.refl sb) (.at _)⟩
  · cases hs
end
end B

set_option Elab.async false
set_option linter.all false
set_option maxRecDepth 100000
set_option maxHeartbeats 4000000
/-! B22: [elt for tg in range(a, b) if ..] -/
namespace B
open PySem L2
section
variable {X : Cx} {N : Nm} {W : WX} {elt tg : Expr} {ifs : List Expr} {scope : Scope} {pos : Pos} {te : M EV} {tt : M Bool} {t : TgS}
def lcR2 (t : TgS) (vs : List Nat) (tt : M Bool) (te : M EV) : List EV → M EV
  | [.fz (.at (.int i)), .fz (.at (.int j))] => if smallI i && smallI j then lcN t vs tt te (rngL i j) else no
  | _ => no
theorem lcR2_use {fa : M (List EV)} (own : List (Str × Nat)) : ∀ (σ : L2.St) (H : Hp) (Q : VK), tE X.K N W (bnd fa fun xs => lcR2 t (own.map (·.2)) tt te xs) σ H Q → tLc (iRng2 (tA X.K N W fa)) (gC X.K N (own.map (·.2)) t) (tT X.K N W0 tt) (tE X.K N W0 te) (own.map (·.2)) σ H Q :=
  fun σ H Q ⟨ρ, R, r, h⟩ => ⟨ρ, R, r, Pst.bnd' .refl h fun xs ρ1 vs H1 R1 s1 _ r1 e1 h1 => by
    unfold lcR2 at h1
    split at h1
    · rename_i i j
      obtain ⟨v, u, rfl, e2, e3⟩ := evs2 e1
      split at h1
      · rename_i hj
        cases (show Rep X.K N R1 (.at (.int i)) v from e2)
        cases (show Rep X.K N R1 (.at (.int j)) u from e3)
        rw [Bool.and_eq_true] at hj
        have h3 := smallI_ok hj.1
        have h4 := smallI_ok hj.2
        have ln : (rngL i j).length = (j - i).toNat := by simp [rngL]
        refine ⟨i, j, rfl, ⟨h3.1, h3.2, h4.1, h4.2⟩, ?_⟩
        exact lc_run (K := X.K) (N := N) (t := t) (tt := tt) (te := te) (J := Itr i (j - i).toNat) s1 r1 (lcN_use h1).1 (fun H' R' _ _ => by rw [ln]; exact Nat.le_refl _) (fun n H' R' _ _ hi => by rw [ln] at hi; exact hi)
          (fun n H' R' x H'' p _ _ hp y => by
            obtain ⟨y1, y2⟩ := y
            have hi := (List.getElem?_eq_some_iff.mp hp).1
            rw [ln] at hi
            rw [rng_get hi] at hp
            cases hp
            subst y2
            exact ⟨y1, .at _⟩) (lcN_use h1).2
      · exact h1.elim
    · exact h1.elim⟩
theorem be_lcR2 {a b : Expr} {p pos0 : Pos} {fa : M (List EV)} (own : List (Str × Nat)) (hc : X.calm = true) (hN : X.N.Nodup) (hgl : Gl X "range") (hm : X.mg "range" = none) (ha : BA X N W [a, b] fa) (ok : BlkOk X.N X.env.scope scope own)
    (hg : ∀ (s : Shared) (H : Hp) (C : Addr) (cl : List (Str × Addr)) (fp : List Addr), ∀ P, (∀ i ∈ own.map (·.2), i ∉ P) → BG (X.blk s H scope (compEnvC scope cl C X.env) fp) N P tg t)
    (ht : ∀ (s : Shared) (H : Hp) (C : Addr) (cl : List (Str × Addr)) (fp : List Addr), BTs (X.blk s H scope (compEnvC scope cl C X.env) fp) N W0 ifs tt)
    (he : ∀ (s : Shared) (H : Hp) (C : Addr) (cl : List (Str × Addr)) (fp : List Addr), BE (X.blk s H scope (compEnvC scope cl C X.env) fp) N W0 elt te)
    (hs0 : starEach [a, b] X.env = [(false, eval a X.env), (false, eval b X.env)] := by rfl) (hs2 : starEach [b] X.env = [(false, eval b X.env)] := by rfl) (hs : ∀ x, foldedSetIterable (.Call (.Name "range" p) [a, b] [] pos0) X.env x = pure x := by intro _; rfl) :
    BE X N W (.ListComp elt [⟨tg, .Call (.Name "range" p) [a, b] [] pos0, ifs, 0⟩] scope pos) (bnd fa fun xs => lcR2 t (own.map (·.2)) tt te xs) :=
  pe_weak (pe_lc (g := gC X.K N (own.map (·.2)) t) (tt := tT X.K N W0 tt) (te := tE X.K N W0 te) hc hN (pi_range2 hgl hm ha hs0 hs2) ok (fun s H C cl fp => bgc (hg s H C cl fp)) ht he hs) (lcR2_use own)
end
end B

set_option Elab.async false
set_option linter.all false
set_option maxRecDepth 100000
set_option maxHeartbeats 4000000
/-! B23: for i, x in enumerate(xs) -/
namespace B
open PySem L2
def enumL (i : Nat) : List PV → List PV
  | [] => []
  | p :: ps => .tup [.at (.int i), p] :: enumL (i + 1) ps
theorem enumL_drop : ∀ (ps : List PV) (n i : Nat), (enumL n ps).drop i = enumL (n + i) (ps.drop i)
  | [], n, i => by simp [enumL]
  | p :: ps, n, 0 => rfl
  | p :: ps, n, i + 1 => by
    show (enumL (n + 1) ps).drop i = _
    rw [enumL_drop ps (n + 1) i, show n + 1 + i = n + (i + 1) by omega]
    rfl
def forEn_ (t : TgS) (body : MS) (xs : List EV) : MS := match xs with
  | [x] => doS (frz x) fun p ρ => match itemsL p with
    | some ps => forS t body (enumL 0 ps) ρ
    | none => .no
  | _ => fun _ => .no
section
variable {X : Cx} {N : Nm} {W : WX} {P : List Nat} {e : Expr} {body : List Stmt} {pos : Pos} {g : MS}
theorem bs_forEn {elts : List Expr} {kk : Nat} {tpos p pos0 : Pos} {t : TgS} {fa : M (List EV)} (hp : PassesOwn (model X.prog X.w) X.A X.env X.xe) (hc : X.calm = true) (hgl : Gl X "enumerate") (hm : X.mg "enumerate" = none) (ha : BA X N W [e] fa) (hg : BG X N P (.Tuple elts kk tpos) t) (hb : BSs X N W P body g)
    (hs0 : starEach [e] X.env = [(false, eval e X.env)] := by rfl) (hs : ∀ x, foldedSetIterable (.Call (.Name "enumerate" p) [e] [] pos0) X.env x = pure x := by intro _; rfl) :
    BS X N W P (.For (.Tuple elts kk tpos) (.Call (.Name "enumerate" p) [e] [] pos0) body [] pos) (doS fa fun xs => forEn_ t g xs) :=
  ps_weak (ps_for hp hc (pi_enum hgl hm ha hs0) hg hb hs) fun D σ H ⟨ρ, R, r, h⟩ => ⟨ρ, R, r, PsS.doA h fun xs ρ1 vs H1 R1 s1 r1 e1 h1 => by
    unfold forEn_ at h1
    split at h1
    · rename_i x
      obtain ⟨v, rfl, e2⟩ := evs1 e1
      rcases frz_ok s1 r1 e2 with e | ⟨p, ρ2, R2, e, s2, r2, rp, sb, _⟩
      · simp only [doS, e] at h1
        exact h1.elim
      · simp only [doS, e] at h1
        cases e3 : itemsL p with
        | none => rw [e3] at h1; exact h1.elim
        | some ps =>
          rw [e3] at h1
          obtain ⟨a, vs, rfl, hl, rps⟩ : ∃ a vs, v = V.ref a ∧ (∀ H', (∀ b o, R2 b = some o → H' b = some o) → SqL X.K H' a vs) ∧ Reps X.K N R2 ps vs := by
            cases rp with
            | lst q w => cases e3; exact ⟨_, _, rfl, fun H' k => .inl (.inl (k _ _ q)), w⟩
            | scr q => cases e3; exact ⟨_, _, rfl, fun H' k => Sub.seq k q, Reps.ints _⟩
            | «at» => cases e3
            | tup => cases e3
            | ins => cases e3
            | exc => cases e3
            | excF => cases e3
            | dct => cases e3
          refine ⟨a, vs, rfl, hl H1 r2.sub, ?_⟩
          refine ⟨fun i m σ' H' => m = ps.length - i ∧ i ≤ ps.length ∧ ∃ R' ρ', Stp H R ρ σ H' R' ρ' σ' ∧ SR X.K N H' R' ρ' σ' ∧ Prot P σ σ' ∧ Sub R2 R' ∧ PsS X.K N W P (forS t g ((enumL 0 ps).drop i) ρ') σ H R ρ D, ⟨ps.length, by simp, Nat.zero_le _, R2, ρ2, s2, r2, Prot.refl, Sub.refl _, h1⟩, ?_⟩
          rintro i m σ' H' ⟨rfl, hi, R', ρ', s', r', p', sb', h'⟩
          have sq := hl H' (fun b o q => r'.sub b o (sb' b o q))
          by_cases hlt : i < ps.length
          · have hq : ps[i]? = some ps[i] := List.getElem?_eq_getElem hlt
            obtain ⟨u, hu, rq⟩ := rps.get hq
            refine .inr ⟨⟨vs, u, sq, hu⟩, fun σ3 H3 => ∃ R' ρ', Stp H R ρ σ H3 R' ρ' σ3 ∧ SR X.K N H3 R' ρ' σ3 ∧ Prot P σ σ3 ∧ Sub R2 R' ∧ PsS X.K N W P (forS t g ((enumL 0 ps).drop (i + 1)) ρ') σ H R ρ D,
              fun σ3 H3 nx => ⟨ps.length - (i + 1), by omega, rfl, hlt, nx⟩, fun x H3 y => ?_⟩
            obtain ⟨T, z, rfl, nT, rfl, hz⟩ := y
            have ez := hz vs sq
            rw [hu] at ez
            cases ez
            have gr := Gr.add (o := .tup [.int (i : Nat), u]) r'.sub nT
            have ed : (enumL 0 ps).drop i = .tup [.at (.int i), ps[i]] :: (enumL 0 ps).drop (i + 1) := by
              rw [enumL_drop, enumL_drop, drop_get hq, Nat.zero_add, Nat.zero_add]
              rfl
            rw [ed] at h'
            exact for_turn (s'.trans gr.stp) (gr.sr r') p' (.tup (.inl (.inl upd_same)) (.cons (.at _) (.cons (Rep.mono (sb'.trans gr.sub) rq) .nil))) h' _ fun σ4 H4 R4 ρ4 s4 r4 p4 sb4 _ h4 => ⟨R4, ρ4, s4, r4, p4, (sb'.trans gr.sub).trans sb4, h4⟩
          · have e : i = ps.length := by omega
            subst e
            have ed : (enumL 0 ps).drop ps.length = [] := by
              rw [enumL_drop, List.drop_length]
              rfl
            rw [ed] at h'
            exact .inl ⟨⟨vs, sq, by rw [rps.length]; exact Nat.le_refl _⟩, for_end s' r' p' h'⟩
    · exact h1.elim⟩
end
end B

set_option Elab.async false
set_option linter.all false
set_option maxRecDepth 100000
set_option maxHeartbeats 4000000
/-! B24: raise, try, except x as n: the exception stays known behind the clause -/
namespace B
open PySem L2
section
open PySem.Spec PyProof.Rows
variable {X : Cx} {pins : List (Addr × Obj)} {σ : L2.St} {H : Hp} {sI s s' : Shared} {B : Heap}
/-- one more thing is tracked -/
theorem hok_track {P : Program} {w : World} {h : Heap} {a : Addr} {o : HO} (x : HOk P w H h) (n : H a = none) (new : ObjOk P w (upd H a o) h a o) : HOk P w (upd H a o) h := fun b u e => by
  by_cases hb : b = a
  · subst hb
    rw [upd_same] at e
    cases e
    exact new
  · rw [upd_ne hb] at e
    have far : ∀ {c : Addr} {z : HO}, H c = some z → upd H a o c = some z := fun q => by rw [upd_ne (ne_of_none q n)]; exact q
    exact (x b u e).stay (fun _ _ _ q => q) (fun _ q => far q) fun _ _ q => far q
theorem exA_ok {P : Program} {w : World} {h : Heap} {a : Addr} {cls : Value} {d : Option Addr} {oe : Obj} {vs : Array Value} (e : h.get? a = some oe) (z : Zc cls d oe) (dd : oe.data = .fields vs) : ObjOk P w H h a (ExA cls d a) :=
  ⟨⟨oe, vs, e, z, dd⟩, ⟨oe, e⟩, fun _ _ ⟨o, v, q, r⟩ k => ⟨o, v, k o q, r⟩⟩
/-- back on the ground, the exception tracked -/
theorem landedT (I : Inv X pins σ H sI) (nb : ∀ b o, sI.heap.get? b = some o → b ∉ frs X.stack → B.get? b = some o) (st : B.StaysIn s'.heap) (up : sI.heap.UpToSlots s'.heap) (os : s'.os = sI.os) (ag : AllBare s'.gens)
    {a : Addr} {cls : Value} {d : Option Addr} {oe : Obj} {vs : Array Value} (na : H a = none) (nB : B.get? a = none) (nf : a ∉ frs X.stack) (e : s'.heap.get? a = some oe) (z : Zc cls d oe) (dd : oe.data = .fields vs) : Inv X pins σ (upd H a (ExA cls d a)) s' := by
  have away : ∀ {b : Addr} {o : Obj}, sI.heap.get? b = some o → b ≠ a := fun q h => by
    subst h
    rw [nb _ _ q nf] at nB
    cases nB
  have far : ∀ {c : Addr} {u : HO}, H c = some u → upd H a (ExA cls d a) c = some u := fun q => by rw [upd_ne (ne_of_none q na)]; exact q
  have fr : ∀ b ∈ frs X.stack, ∀ o, sI.heap.get? b = some o → ∃ sl, s'.heap.get? b = some { o with slots := sl } := fun b hb o q => by
    obtain ⟨_, o', q', hd⟩ := I.stack.mem hb
    rw [q] at q'
    cases q'
    exact up b o q hd
  have un : Un (frs X.stack) [] H (upd H a (ExA cls d a)) sI.heap s'.heap := {
    keep := fun b o q _ hb _ => st b o (nb b o q hb)
    slot := fun b o q _ hb _ => fr b hb o q
    free := fun b o q n _ => by rw [upd_ne (away q)]; exact n
    there := fun b o q _ => by
      by_cases hb : b ∈ frs X.stack
      · exact (fr b hb o q).elim fun sl q => ⟨_, q⟩
      · exact ⟨o, st b o (nb b o q hb)⟩
    tups := fun _ _ q => far q
    frzs := fun _ _ _ q => far q
    tbls := fun b ps q => ⟨#[], by rw [far q, Array.append_empty]⟩ }
  exact I.call' os un (hok_track ((I.inGround nb).kept st) na (exA_ok e z dd)) ag fun _ h => nomatch h
theorem toSuite (I : Inv X pins σ H s) (a : Addr) : Inv (X.suite a (X.pn ++ pins)) [] σ H s :=
  ⟨I.ok.suite _ _, I.os, I.bare, I.base, I.loc, I.cell, I.free, I.freeC, fun p hp => I.pin p ((List.append_nil _).subst hp), I.hok, I.len⟩
theorem ofSuite {a : Addr} {pn : List (Addr × Obj)} (I : Inv (X.suite a (X.pn ++ pins)) pn σ H s) (ok : X.Ok) : Inv X pins σ H s :=
  ⟨ok, I.os, I.bare, I.base, I.loc, I.cell, I.free, I.freeC, fun p hp => I.pin p (List.mem_append_left _ hp), I.hok, I.len⟩
/-- what 'except x as n' wishes: the exception tracked at a, in slot i -/
def wK (K : PySem.W.Frag) (c : Value) (i : Nat) (ts : TS) (Wout : WX) (D : Ends) : WX := fun cls d σ H => ∃ b, PySem.W.exmOne K cls c = some b ∧ (b = false → Wout cls d σ H) ∧
  (b = true → ∀ a, H a = none → ts { nx := fun σ' H' => D.nx (σ'.set i none) H', rt := D.rt, bk := fun σ' H' => D.bk (σ'.set i none) H', ct := fun σ' H' => D.ct (σ'.set i none) H' } (σ.set i (some (.ref a))) (upd H a (ExA cls d a)))
variable {x n : Str} {c : Value} {i : Nat} {body suite : List Stmt} {b0 : Stmt} {np pos pos' : Pos} {tb : WX → TS} {ts : TS} {Wout : WX}
theorem ps_try_keep (hs : X.stack = X.env :: X.outer) (hf : X.env.frame = some X.env.locals) (hN : X.N.Nodup) (hi : X.N[i]? = some n) (hln : X.env.kindOf n = some .local) (hc : Names X x c) (tk : Takes X Wout)
    (hb : ∀ (W : WX) (pn : List (Addr × Obj)) (xe : Value → Shared → Prop), Takes (X.tr pn xe) W → PassesOwn (model X.prog X.w) X.A X.env xe → PSs (X.tr pn xe) body (tb W))
    (hsu : ∀ (a : Addr) (pn : List (Addr × Obj)), PSs (X.suite a pn) (b0 :: suite) ts) :
    PS X (.Try body [.ExceptHandler (some (.Name x np)) (some n) (b0 :: suite) pos'] [] [] pos) (fun D σ H => tb (wK X.K c i ts Wout D) D σ H) := by
  refine ⟨fun pins s σ H D I h => wpAny_Try_except ?_⟩
  have ok := I.ok
  have hfr : X.A.frames = some (X.env :: X.outer) := hs ▸ ok.frames
  let xe : Value → Shared → Prop := fun e s1 => wpAny (model X.prog X.w) X.A (noteFrame e X.env) (fun _ s2 => wpAny (model X.prog X.w) X.A (setFlight e none)
    (fun _ s3 => wpAny (model X.prog X.w) X.A (handleBy e X.env [.ExceptHandler (some (.Name x np)) (some n) (b0 :: suite) pos']) (SP X pins D) X.xe s3) X.xe s2) X.xe s1
  refine wpAny_mono ((hb (wK X.K c i ts Wout D) (X.pn ++ pins) xe (fun u s' xx => ?_) PassesOwn.looking).run [] s σ H D (I.toTry _) h) (fun f s1 q => ?_) fun _ _ z => z
  · obtain ⟨a, B, sI, pins', σ', H', cls, d, rfl, J', nb, up, sky, na, os, ag, b, hb1, hno, hyes⟩ := xx
    have J : Inv X pins σ' H' sI := J'.ofTry ok
    show wpAny (model X.prog X.w) X.A (noteFrame (.ref a) X.env) _ _ _
    refine Sky.land Zc.steady hfr hf (B := B) (Z := Zc cls d) (by rw [← hs]; exact sky) fun h3 fl3 up3 => ?_
    have nfr : ∀ {h : Heap} {o : Obj} {vs : Array Value}, h.FunFrames B (X.env :: X.outer) → h.get? a = some o → o.data = .fields vs → a ∉ frs X.stack := fun ff e dd hm => by
      rw [hs] at hm
      obtain ⟨_, o', e', k⟩ := ff.mem hm
      rw [e] at e'
      cases e'
      exact k _ dd
    obtain ⟨oe3, vs3, he3, hz3, hd3⟩ := fl3.there
    have nf := nfr fl3.2.2.1 he3 hd3
    have J3 : Inv X pins σ' H' { s' with heap := h3 } := J.landed nb fl3.1 (up.trans up3) os ag
    have S3 := toSuite J3 a
    refine wpAny_handleBy_cons (codeAny_handlers_test ?_) (by intro q; cases q)
    have kind : PySem.W.Looks (model X.prog X.w) h3 (typeOf (.ref a)) cls := fun _ _ _ _ k q => wpAny_typeOf_ref (k _ _ he3) (by rw [hz3.1]; exact q)
    have LM := PySem.W.exm_one (M := model X.prog X.w) J3.kIn kind hb1
    have test : ∀ {Q E : Value → Shared → Prop}, Q c { s' with heap := h3 } → wpAny (model X.prog X.w) (X.A.mark (some (.ref a))) (eval (.Name x np) X.env) Q E { s' with heap := h3 } := fun {Q E} q => by
      obtain ⟨hg, hdb, hm | ⟨hm, hv, hn⟩⟩ := hc
      · exact ld_glob (X := X.suite a (X.pn ++ pins)) S3 hg hm q hdb
      · exact ld_blt (X := X.suite a (X.pn ++ pins)) S3 hg hm hv q hn hdb
    refine test (LM.here ?_)
    cases b with
    | false =>
      show wpAny _ X.A (handleBy (.ref a) X.env []) _ _ _
      refine wpAny_handleBy_nil ?_
      obtain ⟨_, _, _, oe, vs, T, oT, _, he, _, hd, h1, _⟩ := id fl3
      unfold PySem.passOn
      refine wpAny_bind (wpAny_field he hd h1 ?_)
      rw [if_neg (show ¬ ((Value.ref T == Value.none) = true) from by simp)]
      have fin : wpAny (model X.prog X.w) X.A (setFlight (.ref a) X.env.frame) (fun _ s4 => wpAny (model X.prog X.w) X.A (throw (.ref a) : Sem Flow) (SP X pins D) X.xe s4) X.xe { s' with heap := h3 } := by
        rw [hf]
        exact HandSPX.setFlight_upZ fl3 fun h4 hh4 up4 => wpAny_throw (tk _ _ ⟨a, B, sI, pins, σ', H', cls, d, rfl, J, nb, (up.trans up3).trans up4, .inr (.inr (hs.symm ▸ hh4)), na, os, ag, hno rfl⟩)
      first
        | exact wpAny_bind (wpAny_pure (wpAny_bind fin))
        | exact wpAny_bind fin
    | true =>
      refine codeAny_handlers_suite_as (HandSPX.lands_againZ fl3 fun h4 fl4 up4 => ?_)
      obtain ⟨oe4, vs4, he4, hz4, hd4⟩ := fl4.there
      have J4 : Inv X pins σ' (upd H' a (ExA cls d a)) { s' with heap := h4 } := landedT (s' := { s' with heap := h4 }) J nb fl4.1 ((up.trans up3).trans up4) os ag na fl4.2.1 nf he4 hz4 hd4
      refine store_ok (X := X.suite a (X.pn ++ pins)) (v := .ref a) (toSuite J4 a) hN hi (.inl hln) rfl (fun s5 S5 => ?_) (.inr hln)
      refine wpAny_mono ((hsu a (X.pn ++ pins)).run [] s5 _ _ _ S5 (hyes rfl a na)) (fun f s6 q => ?_) fun _ _ z => z.elim
      have fin : ∀ {σ6 : L2.St} {H6 : Hp} {Q : Shared → Prop}, Inv (X.suite a (X.pn ++ pins)) [] σ6 H6 s6 → (∀ s7, Inv X pins (σ6.set i none) H6 s7 → Q s7) →
          wpAny (model X.prog X.w) X.A (do bindName X.env n .none; unbindBehindTheSuite X.env n pos') (fun _ s7 => Q s7) X.xe s6 := fun S6 k => gone_ok (ofSuite S6 ok) hN hi hln k
      match f, q with
      | .next, ⟨_, _, S6, q⟩ => exact fin S6 fun _ J7 => ⟨_, _, J7, q⟩
      | .brk, ⟨_, _, S6, q⟩ => exact fin S6 fun _ J7 => ⟨_, _, J7, q⟩
      | .cont, ⟨_, _, S6, q⟩ => exact fin S6 fun _ J7 => ⟨_, _, J7, q⟩
      | .ret u, ⟨_, _, _, S6, r, q⟩ => exact fin S6 fun _ J7 => ⟨_, _, _, J7, r, q⟩
  · match f, q with
    | .next, ⟨_, _, J', q⟩ => exact wpAny_execs_nil ⟨_, _, J'.ofTry ok, q⟩
    | .brk, ⟨_, _, J', q⟩ => exact ⟨_, _, J'.ofTry ok, q⟩
    | .cont, ⟨_, _, J', q⟩ => exact ⟨_, _, J'.ofTry ok, q⟩
    | .ret u, ⟨_, _, _, J', r, q⟩ => exact ⟨_, _, _, J'.ofTry ok, r, q⟩
end
end B

set_option Elab.async false
set_option linter.all false
set_option maxRecDepth 100000
set_option maxHeartbeats 4000000
/-! B25: raise, try by content; isinstance with a tuple of classes; what is never reached -/
namespace B
open PySem L2
section
variable {K : PySem.W.Frag} {N : Nm} {W : WX} {P : List Nat} {H R H' R' H0 R0 : Hp} {ρ ρ' ρ0 : Env} {σ σ' σ0 : L2.St} {D : Ends}
theorem own_setN {i : Nat} {a : Addr} (w : Own (ρ.set i none) (σ.set i none) a) : Own ρ σ a := by
  obtain ⟨j, x, h1, h2, h3⟩ := w
  by_cases e : j = i
  · subst e
    by_cases hl : j < ρ.length
    · rw [List.getElem?_set_self hl] at h1; cases h1
    · rw [List.getElem?_eq_none (by simp; omega)] at h1; cases h1
  · rw [List.getElem?_set_ne (Ne.symm e)] at h1 h3
    exact ⟨j, x, h1, h2, h3⟩
theorem SR.setN (r : SR K N H R ρ σ) {i : Nat} : SR K N H R (ρ.set i none) (σ.set i none) := by
  have get : ∀ {j : Nat} {x : Sl}, (ρ.set i none)[j]? = some (some x) → j ≠ i ∧ ρ[j]? = some (some x) := fun {j x} h => by
    by_cases e : j = i
    · subst e
      by_cases hl : j < ρ.length
      · rw [List.getElem?_set_self hl] at h; cases h
      · rw [List.getElem?_eq_none (by simp; omega)] at h; cases h
    · rw [List.getElem?_set_ne (Ne.symm e)] at h
      exact ⟨e, h⟩
  refine ⟨r.sub, by simp [r.len], fun j x h => ?_, fun j k x y a hj hk hx hy ha hb => ?_⟩
  · obtain ⟨e, q⟩ := get h
    obtain ⟨v, h1, h2⟩ := r.at_ j x q
    exact ⟨v, by rw [List.getElem?_set_ne (Ne.symm e)]; exact h1, h2⟩
  · obtain ⟨e1, q1⟩ := get hj
    obtain ⟨e2, q2⟩ := get hk
    rw [List.getElem?_set_ne (Ne.symm e1)] at ha
    rw [List.getElem?_set_ne (Ne.symm e2)] at hb
    exact r.sep j k x y a q1 q2 hx hy ha hb
theorem Stp.setN (s : Stp H0 R0 ρ0 σ0 H R ρ σ) {i : Nat} : Stp H0 R0 ρ0 σ0 H R (ρ.set i none) (σ.set i none) := ⟨s.sub, s.keep, s.new, fun a w => s.own a (own_setN w), s.live⟩
theorem xc_rep {e : Xc} {c : Value} {d : Option Addr} {a : Addr} (h : XcR N R e c d) (n : R a = none) : Rep K N (upd R a (ExA c d a)) (.exc e.c e.f) (.ref a) := by
  obtain ⟨k, f⟩ := e
  obtain ⟨h1, h2⟩ := h
  subst h1
  cases f with
  | none =>
    cases (show d = none from h2)
    exact .exc upd_same
  | some q =>
    obtain ⟨m, v⟩ := q
    obtain ⟨dd, rfl, h3⟩ := h2
    exact .excF upd_same (by rw [upd_ne (ne_of_none h3 n)]; exact h3)
/-- try: g, except c as (slot i): k; ex the classes that c catches -/
def tryS (ex : Nat → Option Bool) (i : Nat) (g k : MS) : MS := fun ρ => match g ρ with
  | .ex e ρ1 => match ex e.c with
    | some false => .ex e ρ1
    | some true => match k (ρ1.set i (some (.fz (.exc e.c e.f)))) with
      | .nx ρ2 => .nx (ρ2.set i none)
      | .bk ρ2 => .bk (ρ2.set i none)
      | .ct ρ2 => .ct (ρ2.set i none)
      | .rt x ρ2 => .rt x ρ2
      | _ => .no
    | none => .no
  | r => r
theorem try_ok {ex : Nat → Option Bool} {i : Nat} {g k : MS} {C : Nat} (hp : i ∉ P) (hE : ∀ j b, ex j = some b → PySem.W.exmOne K (.ref (N.cl j)) (.ref (N.cl C)) = some b) (r : SR K N H R ρ σ) (h : PsS K N W P (tryS ex i g k ρ) σ H R ρ D) :
    PsS K N (wK K (.ref (N.cl C)) i (tS K N W0 P k) W D) P (g ρ) σ H R ρ D := by
  unfold tryS at h
  cases e1 : g ρ with
  | nx ρ1 => rw [e1] at h; exact h
  | rt x ρ1 => rw [e1] at h; exact h
  | bk ρ1 => rw [e1] at h; exact h
  | ct ρ1 => rw [e1] at h; exact h
  | no => rw [e1] at h; exact h
  | ex e ρ1 =>
    rw [e1] at h
    dsimp only at h
    intro c d σ1 H1 R1 s1 r1 p1 x1
    have hc : c = .ref (N.cl e.c) := x1.1
    cases e2 : ex e.c with
    | none => rw [e2] at h; exact h.elim
    | some b =>
      rw [e2] at h
      refine ⟨b, by rw [hc]; exact hE _ _ e2, fun z => ?_, fun z a na => ?_⟩
      · subst z
        exact h c d σ1 H1 R1 s1 r1 p1 x1
      · subst z
        dsimp only at h
        have ra : R1 a = none := rnone_of r1.sub na
        have g1 : Gr H1 R1 (upd H1 a (ExA c d a)) (upd R1 a (ExA c d a)) := Gr.add r1.sub na
        have rp : Rep K N (upd R1 a (ExA c d a)) (.exc e.c e.f) (.ref a) := xc_rep x1 ra
        have s2 : Stp H R ρ σ (upd H1 a (ExA c d a)) (upd R1 a (ExA c d a)) (ρ1.set i (some (.fz (.exc e.c e.f)))) (σ1.set i (some (.ref a))) := (s1.trans g1.stp).set
        have r2 : SR K N (upd H1 a (ExA c d a)) (upd R1 a (ExA c d a)) (ρ1.set i (some (.fz (.exc e.c e.f)))) (σ1.set i (some (.ref a))) := (g1.sr r1).set rp
        have p2 : Prot P σ (σ1.set i (some (.ref a))) := p1.trans (Prot.set hp)
        refine ⟨_, _, r2, ?_⟩
        cases e3 : k (ρ1.set i (some (.fz (.exc e.c e.f)))) with
        | nx ρ3 =>
          rw [e3] at h
          intro σ3 H3 R3 s3 r3 p3
          exact h _ H3 R3 (s2.trans s3).setN r3.setN ((p2.trans p3).trans (Prot.set hp))
        | bk ρ3 =>
          rw [e3] at h
          intro σ3 H3 R3 s3 r3 p3
          exact h _ H3 R3 (s2.trans s3).setN r3.setN ((p2.trans p3).trans (Prot.set hp))
        | ct ρ3 =>
          rw [e3] at h
          intro σ3 H3 R3 s3 r3 p3
          exact h _ H3 R3 (s2.trans s3).setN r3.setN ((p2.trans p3).trans (Prot.set hp))
        | rt x ρ3 =>
          rw [e3] at h
          intro v σ3 H3 R3 s3 r3 p3 ev
          exact h v σ3 H3 R3 (s2.trans s3) r3 (p2.trans p3) (ev.early s2.live)
        | ex x ρ3 => rw [e3] at h; exact h.elim
        | no => rw [e3] at h; exact h.elim
end
section
variable {X : Cx} {N : Nm} {W : WX} {P : List Nat} {x n : Str} {i : Nat} {body suite : List Stmt} {b0 : Stmt} {np p p2 pos pos' : Pos} {g k : MS} {a b : Expr} {f : M EV}
theorem bs_try (i C : Nat) (ex : Nat → Option Bool) (tk : Takes X W) (hs : X.stack = X.env :: X.outer) (hf : X.env.frame = some X.env.locals) (hN : X.N.Nodup) (hc : X.mg x = some (.ref (N.cl C))) (hE : ∀ j b, ex j = some b → PySem.W.exmOne X.K (.ref (N.cl j)) (.ref (N.cl C)) = some b)
    (hb : ∀ (W' : WX) (pn : List (Addr × Obj)) (xe : Value → Shared → Prop), Takes (X.tr pn xe) W' → PassesOwn (model X.prog X.w) X.A X.env xe → BSs (X.tr pn xe) N W' P body g)
    (hsu : ∀ (a : Addr) (pn : List (Addr × Obj)), BSs (X.suite a pn) N W0 P (b0 :: suite) k)
    (hi : X.N[i]? = some n := by rfl) (hln : X.env.kindOf n = some .local := by rfl) (hp : i ∉ P := by decide) (hg : Gl X x := by rfl) (hdb : (x == ("__debug__" : Str)) = false := by decide) :
    BS X N W P (.Try body [.ExceptHandler (some (.Name x np)) (some n) (b0 :: suite) pos'] [] [] pos) (tryS ex i g k) :=
  ps_weak (ps_try_keep (tb := fun W' => tS X.K N W' P g) hs hf hN hi hln ⟨hg, hdb, .inl hc⟩ tk hb hsu) fun D σ H ⟨ρ, R, r, h⟩ => ⟨ρ, R, r, try_ok hp hE r h⟩
/-- what a class must be, to be raised with a text -/
structure RaiseF (K : PySem.W.Frag) (C : Addr) : Prop where
  ex : PySem.W.excIn K C He.veBase "ValueError.__new__" = true
  kp : PySem.W.keepIn K (.ref C) = true
  sub : PySem.W.subIn K (.ref C) (.type "BaseException") = some true
  ty : PySem.W.typeIn K (.ref C) = some (.type "type")
theorem bs_raise (C : Nat) {m : Str} {j : Nat} (hcalm : X.calm = true) (tk : Takes X W) (hc : X.mg x = some (.ref (N.cl C))) (F : RaiseF X.K (N.cl C)) (hg : Gl X x := by rfl) (hdb : (x == ("__debug__" : Str)) = false := by decide) :
    BS X N W P (.Raise (some (.Call (.Name x p) [.Constant (.str m) j p2] [] pos)) none pos') (fun ρ => .ex ⟨C, none⟩ ρ) :=
  ps_weak (ps_raise hcalm tk (pmk_own PySem.F.excBase_ValueError F.ex hc F.kp (raises_own F.sub F.ty) hg hdb)) fun D σ H ⟨ρ, R, r, h⟩ => h _ none σ H R .refl r Prot.refl ⟨rfl, rfl⟩
/-- an expression that is never reached -/
theorem be_never {e : Expr} : BE X N W e (fun _ => .no) := ⟨fun pins s σ H Q I ⟨ρ, R, r, h⟩ => h.elim⟩
theorem bt_never {e : Expr} : BT X N W e (fun _ => .no) := ⟨fun pins s σ H Q I ⟨ρ, R, r, h⟩ => h.elim⟩
/-- {} -/
theorem be_dct0 : BE X N W (.Dict [] [] pos) (pur (.fz (.dct [] []))) :=
  pe_weak pe_dnewK fun σ H Q ⟨ρ, R, r, h⟩ => fun q nq => Pst.give (H' := upd H q (.dK [])) (R' := upd R q (.dK [])) h .refl r (Gr.add r.sub nq) (Rep.dct (ks := []) (vs := []) upd_same rfl .nil)
/-! ### isinstance(x, (c1, c2, ..)) -/
abbrev tCs (cs : List V) : TA := fun _ H Q => Q cs H
theorem pac_nil : PA X [] (tCs []) := pa_nil
theorem pac_cons {e : Expr} {es : List Expr} {c : V} {cs : List V} (h : PE X e (tC c)) (t : PA X es (tCs cs)) (hs : starEach (e :: es) X.env = (false, eval e X.env) :: starEach es X.env := by rfl) : PA X (e :: es) (tCs (c :: cs)) := pa_cons h t hs
def anyK : List (Kd → Option Bool) → Kd → Option Bool
  | [], _ => some false
  | t :: r, k => match t k with
    | some true => some true
    | some false => anyK r k
    | none => none
inductive IsiFs (K : PySem.W.Frag) (N : Nm) : List V → List Value → List (Kd → Option Bool) → Prop
  | nil : IsiFs K N [] [] []
  | cons {c cs u us t ts} : ClsV c u → IsiF K N u t → IsiFs K N cs us ts → IsiFs K N (c :: cs) (u :: us) (t :: ts)
theorem IsiFs.paired {K : PySem.W.Frag} : ∀ {cs us ts}, IsiFs K N cs us ts → Paired ClsV cs us
  | _, _, _, .nil => .nil
  | _, _, _, .cons c _ r => .cons c r.paired
theorem IsiFs.any {K : PySem.W.Frag} {k : Kd} : ∀ {cs us ts} {b : Bool}, IsiFs K N cs us ts → anyK ts k = some b → PySem.W.kitAny K (k.ty N) us = some b
  | _, _, _, b, .nil, h => h
  | _, _, _, b, .cons (t := t) _ f r, h => by
    unfold anyK at h
    unfold PySem.W.kitAny
    cases e : t k with
    | none => rw [e] at h; cases h
    | some z =>
      rw [e] at h
      rw [(f _ _ e).2.2.2]
      cases z with
      | true => exact h
      | false => exact r.any h
theorem IsiFs.head {K : PySem.W.Frag} {k : Kd} {c cs u us t ts} {b : Bool} (h : IsiFs K N (c :: cs) (u :: us) (t :: ts)) (e : anyK (t :: ts) k = some b) : k ≠ .oth ∧ (∀ c, k = .own c → InstF K (N.cl c)) ∧ (∀ c, k = .exc c → ExcC K (N.cl c)) := by
  cases h with
  | cons _ f _ =>
    unfold anyK at e
    cases e2 : t k with
    | none => rw [e2] at e; cases e
    | some z => obtain ⟨a, b, c, _⟩ := f _ _ e2; exact ⟨a, b, c⟩
def isiVT (ts : List (Kd → Option Bool)) (x : EV) : M EV := bnd (deref x) fun p => lift ((anyK ts p.kd).map fun b => .fz (.bl b))
theorem be_isiT {es : List Expr} {c : V} {cs : List V} {u : Value} {us : List Value} {t : Kd → Option Bool} {ts : List (Kd → Option Bool)} {x1} (ha : BE X N W a f) (hc : PA X es (tCs (c :: cs))) (hF : IsiFs X.K N (c :: cs) (u :: us) (t :: ts)) (hl : (c :: cs).length ≤ sizeLine) (hg : Gl X "isinstance") (hm : X.mg "isinstance" = none)
    (hs1 : starEach [a, .Tuple es x1 p2] X.env = (false, eval a X.env) :: starEach [.Tuple es x1 p2] X.env := by rfl) (hs2 : starEach [.Tuple es x1 p2] X.env = (false, eval (.Tuple es x1 p2) X.env) :: starEach [] X.env := by rfl)
    (hpl : (backTo pos (starEach [.Tuple es x1 p2] X.env)).any (·.1) = false := by rfl) : BE X N W (.Call (.Name "isinstance" p) [a, .Tuple es x1 p2] [] pos) (bnd f fun x => isiVT (t :: ts) x) :=
  pe_weak (pe_callB call_isBT hg hm (by decide +kernel) (pa_cons ha (pa_cons (pe_tup hc) pa_nil hs2) hs1) (he := hs1) (hpl := hpl)) fun σ H Q ⟨ρ, R, r, h⟩ => ⟨ρ, R, r, Pst.bnd' .refl h fun x ρ1 v H1 R1 s1 _ r1 e1 h1 => ⟨hl, fun q nq => by
    have g := Gr.new_ (o := HO.tup (c :: cs)) r1.sub nq
    refine deref_use h1 (g.sr r1) (e1.mono g.stp) fun y d h2 => ?_
    cases e2 : anyK (t :: ts) y.kd with
    | none => rw [e2] at h2; exact h2.elim
    | some b =>
      rw [e2] at h2
      obtain ⟨t1, t2, t3⟩ := hF.head e2
      exact ⟨v, q, c :: cs, _, u :: us, b, rfl, upd_same, hF.paired, tyx_of d g.rh t1 t2 t3, hF.any e2, Pst.give h2 (s1.trans g.stp) (g.sr r1) (Gr.refl g.rh) (.at _)⟩⟩⟩
end
end B

set_option Elab.async false
set_option linter.all false
set_option maxRecDepth 100000
set_option maxHeartbeats 4000000
/-! B26: repr; xs.count, xs.index; xs * n; an own operator with anything -/
namespace B
open PySem L2
section
open PySem.Spec PyProof.Rows
variable {X : Cx}
/-- repr(v), v data without dicts -/
def rReprD (K : PySem.W.Frag) : List V → Hp → VK → Prop := fun xs H Q => ∃ v d, xs = [v] ∧ Dp K H v d ∧ d.showable = true ∧ d.hasDict = false ∧ d.shown.length ≤ sizeLine ∧ d.depth ≤ 50 ∧ Q (.str d.shown) H
theorem call_reprD (hg : X.A.guards = some []) (hu : X.A.units + 64 < cLine) : CallR X (.builtin "repr") (rReprD X.K) := by
  intro pins s σ H xs us Q I r h
  obtain ⟨v, d, rfl, dp, h1, h2, h3, h4, q⟩ := h
  obtain ⟨u, rfl, rv⟩ := vals1 r
  have fin : ∀ {t : Str} {tk : Nat}, t = d.shown → EP X pins σ Q (.str t s.toks) { s with toks := tk } := fun {t tk} e => ⟨.str d.shown, H, I.tok _, ⟨s.toks, congrArg (fun t => Value.str t s.toks) e⟩, q⟩
  obtain ⟨as, rd⟩ := Dp.reads I d v u dp rv
  have obj : ∀ {a : Addr}, u = .ref a → wpAny (model X.prog X.w) X.A (call (.builtin "repr") [u]) (EP X pins σ Q) X.xe s := fun {a} e => by
    subst e
    refine repr_of_reads' rd h1 (fun z => by rw [h2] at z; cases z) hg (by omega) (fun _ _ e => e) (fun h' u tk hk => ?_) h3
    exact ⟨.str d.shown, H, I.kept (t' := tk) hk, ⟨u, rfl⟩, q⟩
  cases dp with
  | non =>
    cases rv
    exact P.repr_of_none (fin (by simp [PyData.shown]))
  | bl b =>
    cases rv
    exact P.repr_of_bool (fin (by simp [PyData.shown]))
  | int i =>
    obtain ⟨t, rfl⟩ := rv
    exact P.repr_of_int (by simpa [PyData.showable] using h1) (fin (by simp [PyData.shown]))
  | str x =>
    obtain ⟨t, rfl⟩ := rv
    exact P.repr_of_str (fin (by simp [PyData.shown])) (by simpa [PyData.shown] using h3)
  | lst _ _ => exact obj (show u = Value.ref _ from rv)
  | tup _ _ => exact obj (show u = Value.ref _ from rv)
/-- xs.count(y) -/
def rCountD (K : PySem.W.Frag) : V → V → Hp → VK → Prop := fun x y H Q => ∃ (a : Addr) (d : PyData) (ds : List PyData), x = V.ref a ∧ Dp K H (V.ref a) (.list ds) ∧ Dp K H y d ∧ PyData.plainAll ds = true ∧ d.plain = true ∧ min (PyData.depthAll ds) d.depth ≤ 50 ∧ Q (.int (ds.countP fun z => PyData.eqv z d : Nat)) H
theorem mt_countD (hu : X.A.units + 64 < cLine) : MtR X "list.count" (fun x xs H Q => ∃ y, xs = [y] ∧ rCountD X.K x y H Q) := by
  intro pins s σ H x xs v us Q I rx rxs h
  obtain ⟨y, rfl, a, d, ds, rfl, hl, hy, p1, p2, dl, q⟩ := h
  cases rx
  obtain ⟨u, rfl, ry⟩ := vals1 rxs
  obtain ⟨bs, r1⟩ := Dp.reads I d y u hy ry
  cases hl with
  | lst hs ha =>
    obtain ⟨its, rv, ⟨o, n, ho, hc, hdn, hdt⟩, _⟩ := I.list hs
    obtain ⟨as, h4⟩ := Dp.readsAll I ds _ its ha rv
    exact SeqAt.count_list_data (vs := its.toArray) ⟨o, ho, hc, n, hdt⟩ (by simpa using h4) r1 p1 p2 (by omega) ⟨.int _, H, I.tok _, ⟨_, rfl⟩, q⟩
def rIndexE (K : PySem.W.Frag) : V → V → Hp → VK → Prop := fun x y H Q => rIndexD K x [y] H Q
theorem mt_indexE (hu : X.A.units + 65 < cLine) : MtR X "list.index" (fun x xs H Q => ∃ y, xs = [y] ∧ rIndexE X.K x y H Q) := by
  intro pins s σ H x xs v us Q I rx rxs h
  obtain ⟨y, rfl, q⟩ := h
  exact mt_indexD hu pins s σ H x _ v us Q I rx rxs q
end
/-! ### by content -/
section
variable {K : PySem.W.Frag} {N : Nm} {W : WX} {H R H0 R0 : Hp} {ρ ρ0 : Env} {σ : L2.St}
def sReprD : List PV → Option EV
  | [p] => match pd p with
    | some d => if d.showable && !d.hasDict && decide (d.shown.length ≤ sizeLine) && decide (d.depth ≤ 50) then some (.fz (.str d.shown)) else none
    | none => none
  | _ => none
theorem cs_reprD : CallS K N (rReprD K) sReprD := fun H R ps e vs Q sb d hs k => by
  unfold sReprD at hs
  split at hs
  · rename_i p
    match vs, d with
    | [v], d =>
      split at hs
      · rename_i d' e1
        split at hs
        · rename_i c
          simp only [Bool.and_eq_true, Bool.not_eq_true', decide_eq_true_eq] at c
          cases hs
          exact ⟨v, d', rfl, pd_repD d.1 sb e1, c.1.1.1, c.1.1.2, c.1.2, c.2, k _ H R (Gr.refl sb) (.at _)⟩
        · cases hs
      · cases hs
  · cases hs
def sCount (p q : PV) : Option EV := match p, pd p, pd q with
  | .lst _, some (.list ds), some d => if PyData.plainAll ds && d.plain && decide (min (PyData.depthAll ds) d.depth ≤ 50) then some (.fz (.int (ds.countP fun z => PyData.eqv z d : Nat))) else none
  | _, _, _ => none
theorem os_count : OpS K N (rCountD K) sCount := fun H R p q e x y Q sb d1 d2 hs k => by
  unfold sCount at hs
  split at hs
  · rename_i ps ds d e2 e1
    split at hs
    · rename_i c
      simp only [Bool.and_eq_true, decide_eq_true_eq] at c
      cases hs
      have h1 := pd_repD d1 sb e1
      obtain ⟨a, vs, rfl, _⟩ := d1
      exact ⟨a, d, ds, rfl, h1, pd_repD d2 sb e2, c.1.1, c.1.2, c.2, k _ H R (Gr.refl sb) (.at _)⟩
    · cases hs
  · cases hs
def sIndex (p q : PV) : Option EV := match p, pd p, pd q with
  | .lst _, some (.list ds), some d => if SeqAt.shaped (.list ds) && SeqAt.shaped d then (ds.findIdx? fun z => PyData.eqv z d).map fun j => .fz (.int (j : Nat)) else none
  | _, _, _ => none
theorem os_index : OpS K N (rIndexE K) sIndex := fun H R p q e x y Q sb d1 d2 hs k => by
  unfold sIndex at hs
  split at hs
  · rename_i ps ds d e2 e1
    split at hs
    · rename_i c
      simp only [Bool.and_eq_true] at c
      cases e3 : ds.findIdx? fun z => PyData.eqv z d with
      | none => rw [e3] at hs; cases hs
      | some j =>
        rw [e3] at hs
        cases hs
        have h1 := pd_repD d1 sb e1
        obtain ⟨a, vs, rfl, _⟩ := d1
        obtain ⟨hj, g1, g2⟩ := List.findIdx?_eq_some_iff_getElem.mp e3
        refine ⟨a, y, d, ds, j, ds[j], rfl, rfl, h1, pd_repD d2 sb e2, c.1, c.2, List.getElem?_eq_getElem hj, g1, fun m z' hm hz => ?_, k _ H R (Gr.refl sb) (.at _)⟩
        obtain ⟨hm', e4⟩ := List.getElem?_eq_some_iff.mp hz
        have := g2 m hm
        rw [← e4]
        simpa using this
    · cases hs
  · cases hs
/-- it is a list -/
def isL (x : EV) : M Unit := bnd (deref x) fun p => match p with
  | .lst _ => pur ()
  | _ => no
def sRep : PV → PV → Option EV
  | .lst xs, .at (.int n) => if -(2 ^ 63) ≤ n ∧ n < 2 ^ 63 ∧ xs.length * n.toNat ≤ sizeLine then some (.nw (.ow (List.replicate n.toNat xs).flatten)) else none
  | _, _ => none
theorem reps_rep {ps : List PV} {vs : List V} (h : Reps K N R ps vs) : ∀ n : Nat, Reps K N R (List.replicate n ps).flatten (List.replicate n vs).flatten
  | 0 => .nil
  | n + 1 => by
    rw [List.replicate_succ, List.replicate_succ, List.flatten_cons, List.flatten_cons]
    exact h.append (reps_rep h n)
theorem os_rep : OpS K N rRep sRep := fun H R p q e x y Q sb d1 d2 hs k => by
  unfold sRep at hs
  split at hs
  · split at hs
    · rename_i c
      cases hs
      cases repd_at d2
      obtain ⟨a, vs, rfl, h1, h2⟩ := d1
      exact ⟨a, _, vs, rfl, rfl, h1, c.1, c.2.1, by rw [← h2.length]; exact c.2.2, fun p np => k _ _ _ (Gr.new_ sb np) ⟨rfl, ⟨p, _, rfl, upd_same, reps_rep h2 _, rnone_of sb np⟩, p, rfl, np⟩⟩
    · cases hs
  · cases hs
end
section
variable {X : Cx} {N : Nm} {W : WX} {a b e o : Expr} {f g : M EV} {pos apos cpos : Pos} {name : Str} {id : String} {k : Nat} {fa : Addr} {fd : FuncData} {ps : List Str} {F : Fn}
/-- xs.name(e) -/
theorem be_mL {r : R2} {s : PV → PV → Option EV} (slot : PySem.Slot "list" name id) (hty : typeOf (.builtin id) = pure (.type "method_descriptor")) (hm : MtR X id (fun x xs H Q => ∃ y, xs = [y] ∧ r x y H Q)) (hs : OpS X.K N r s) (ho : BE X N W o f) (ha : BE X N W e g)
    (hbase : attributeBase o name X.env (eval o X.env) = eval o X.env := by rfl)
    (hfew : ((backTo cpos (starEach [e] X.env)).all (fun x => !x.1) && (backToKw cpos (keywordEach [] X.env)).all (fun x => x.1.isSome) && decide ([e].length + ([] : List Keyword).length + (if ([] : List Keyword).isEmpty then 0 else 1) < 30)) = true := by rfl)
    (hline : (apos.endLine == cpos.line) = true := by rfl) (hst : starEach [e] X.env = (false, eval e X.env) :: starEach [] X.env := by rfl) (hpl : (backTo cpos (starEach [] X.env)).any (·.1) = false := by rfl) :
    BE X N W (.Call (.Attribute o name apos) [e] [] cpos) (bnd f fun x => bnd (isL x) fun _ => bnd g fun y => op2 s x y) :=
  pe_weak (pe_bm PySem.F.plainAttrs_list slot hty hm ho (pa_cons ha pa_nil hst) hbase hfew hline hst hpl) fun σ H Q ⟨ρ, R, r, h⟩ => ⟨ρ, R, r, Pst.bnd' .refl h fun x ρ1 v H1 R1 s1 _ r1 e1 h1 => by
    unfold isL at h1
    rcases deref_ok r1 e1 with ⟨p, e2, d⟩ | e2
    · simp only [bnd, e2] at h1
      cases p with
      | lst xs =>
        obtain ⟨i, vs, rfl, hH, _⟩ := d
        have h2 : Pst X.K N (EvR X.K N) W (bnd g (fun y => op2 s x y) ρ1) σ H R ρ Q := h1
        exact ⟨.inl ⟨rfl, vs, .inl (.inl hH)⟩, ρ1, R1, r1, Pst.bnd' s1 h2 fun y ρ2 u H2 R2 s2 s12 r2 e3 h3 => ⟨u, rfl, op2_ok hs h3 s2 r2 (e1.mono s12) e3⟩⟩
      | _ => exact h1.elim
    · simp only [bnd, e2] at h1
      exact h1.elim⟩
end
end B

set_option Elab.async false
set_option linter.all false
set_option maxRecDepth 100000
set_option maxHeartbeats 4000000
/-! B27: x op y by an own operator, y of any kind that is told -/
namespace PySem.W
open PySem PySem.Calls PyProof.Rows
section
variable {prog : Program} {w : World} {A : Around} {E : Value → Shared → Prop} {s : Shared} {K : Frag} {x C L f : Addr} {h0 : Heap} {m : Str → Option Value} {ox : Obj} {od : Option Obj} {T : String}
/-- y's class is a built-in one, by a look -/
theorem own_binB {op : Operator} {b : Value} {fo ro rc : Option Value} {Q : Value → Shared → Prop} (F : Fr h0 L s.heap m) (X0 : K.In h0) (I : InstAt s.heap x ox C od) (ty : Looks (model prog w) s.heap (typeOf b) (.type T)) (sf : selfFirst K C = true)
    (at_ : findIn K (.ref C) (PySem.dunder op.info.2) = some (some (.ref f))) (fn : isFn K (.ref f) = true) (rr : findIn K (.ref C) (dunderR op.info.2) = some rc) (rp : rc = none ∨ ∃ g : Addr, rc = some (.ref g))
    (f1 : findIn K (.type T) (PySem.dunder op.info.2) = some fo) (f2 : findIn K (.type T) (dunderR op.info.2) = some ro) (sub : subIn K (.type T) (.ref C) = some false)
    (run : wpAny (model prog w) A (call (.ref f) [.ref x, b]) (CmpBack Q) E s) : wpAny (model prog w) A (binaryOp op (.ref x) b) Q E s := by
  have X := X0.keeps F.keep
  obtain ⟨cd, rest, c1, c2⟩ := ksp_first sf
  rcases hi : op.info with ⟨sym, nm⟩
  rw [hi] at at_ rr f1 f2
  dsimp only at at_ rr f1 f2
  have one := ksp_try X I at_ fn run
  obtain ⟨hh, g, d, tt, os⟩ := s
  have l1 : Looks (model prog w) hh (typeOf (.ref x)) (.ref C) := I.type
  have l2 : Looks (model prog w) hh (typeOf b) (.type T) := ty
  have l3 : Looks (model prog w) hh (fillsNumberSlot (.ref C) nm) true := fills_K X c1 c2 at_
  have l4 := ksp_fillsT (M := model prog w) X f1 f2
  have l5 : Looks (model prog w) hh (isSubtype (.type T) (.ref C)) false := looks_subIn X sub
  have l6 : Looks (model prog w) hh (numberSlotInPython (.ref C) nm) true := ksp_inPy X at_ rr rp
  have l7 : Looks (model prog w) hh (numberSlotInPython (.type T) nm) false := Looks.of_pure rfl
  have l8 : Looks (model prog w) hh (typeLookup (.type T) (dunderR nm)) ro := looks_findIn X f2
  generalize ((fo.isSome && !isSeqSlot fo) || (ro.isSome && !isSeqSlot ro)) = rgt at l4
  have ne : (Value.ref C == Value.type T) = false := Bool.eq_false_iff.mpr fun q => nomatch beq_iff_eq.mp q
  have fin : ∀ {G : Option Value → Sem Value}, (∀ v s', Q v s' → wpAny (model prog w) A (G (some v)) Q E s') → wpAny (model prog w) A (tryMethod (.ref x) (PySem.dunder nm) b >>= G) Q E ⟨hh, g, d, tt, os⟩ := fun k =>
    wpAny_bind (wpAny_mono one (fun r s' z => z.elim fun v z => z.1 ▸ k v s' z.2) fun _ _ e => e)
  simp only [binaryOp, hi]
  refine wpAny_holding (wpAny_bind ?_)
  unfold binaryOp1
  refine wpAny_bind (l1.at (wpAny_bind (l2.at (wpAny_bind (l3.at ?_)))))
  simp only [ne, Bool.false_eq_true, if_false]
  cases rgt <;> · ksp_lk
                  refine wpAny_mono one (fun r s' z => ?_) fun _ _ e => e
                  obtain ⟨v, rfl, q⟩ := z
                  ksp_lk
                  exact q
end
end PySem.W
namespace B
open PySem L2
section
variable {X : Cx} {CX : CXT} {k : Nat} {f C : Addr} {fd : FuncData} {ps : List Str} {sp : Sp} {E : L2.St → XK} {pos : Pos} {a b : Expr} {ta tb : TE}
/-- what y's class may be -/
def OpOk (K : PySem.W.Frag) (C : Addr) (nm : String) (t : Value) : Prop := t = .ref C ∨ ∃ T, t = .type T ∧ OwnOpT K C nm T
theorem pe_ownK {op : Operator} (O : OwnOp X.K C f (PySem.dunder op.info.2)) (F : FnG X.prog X.w X.K X.mg X.base CX k f fd ps sp) (hr : RmG k X.A) (hb : Binds X.K fd ps []) (hx : ∀ σ, PassesAt CX X σ (E σ)) (ha : PE X a ta) (hb' : PE X b tb) :
    PE X (.BinOp a op b pos) (tOwn C (fun y H => ∃ t, TyB X.K H y t ∧ OpOk X.K C op.info.2 t) sp E ta tb) := by
  refine ⟨fun pins s σ H Q I h => wpAny_BinOp (bin ha hb' I h fun v u s2 x y H2 I2 rx ry q => ?_)⟩
  obtain ⟨a1, dx, fs, rfl, h1, ⟨t, ty, ok⟩, q⟩ := q
  cases rx
  obtain ⟨mA, J, _⟩ := ins_get I2.hok h1
  obtain ⟨od, J, _⟩ := J.look
  obtain ⟨mm, hF⟩ := I2.fr
  obtain ⟨Pz, Z, pz, _⟩ := kitB_of I2 ry ty
  have L := Z.ty (model X.prog X.w) _ I2.kIn pz
  have run := thn (callG (us := [.ref a1, u]) (vs := [.ref a1, y]) F hr hb (hx σ) I2 (.cons rfl (.cons ry .nil)) q) fun u s h => back_of h
  rcases ok with rfl | ⟨T, rfl, z⟩
  · exact PySem.W.binop_K hF I2.ok.mod.kin J L O.first O.at_ O.fn run
  · obtain ⟨rc, r1, r2⟩ := z.refl
    obtain ⟨fo, t1⟩ := z.fo
    obtain ⟨ro, t2⟩ := z.ro
    exact PySem.W.own_binB hF I2.ok.mod.kin J L O.first O.at_ O.fn r1 r2 t1 t2 z.sub run
end
section
variable {X : Cx} {N : Nm} {W : WX} {a b : Expr} {pos : Pos} {f g : M EV} {k : Nat} {fa : Addr} {fd : FuncData} {ps : List Str} {F : Fn}
/-- the kinds that y may be of -/
def OpF (K : PySem.W.Frag) (N : Nm) (C : Addr) (nm : String) (t : Kd → Bool) : Prop := ∀ k, t k = true → k ≠ .oth ∧ (∀ c, k = .own c → InstF K (N.cl c)) ∧ (∀ c, k = .exc c → ExcC K (N.cl c)) ∧ OpOk K C nm (k.ty N)
theorem be_ownK {op : Operator} {t : Kd → Bool} (tk : Takes X W) (c : Nat) (O : OwnOp X.K (N.cl c) fa (PySem.dunder op.info.2)) (T : OpF X.K N (N.cl c) op.info.2 t) (G : FnG X.prog X.w X.K X.mg X.base (L2.CX X.prog X.w) k fa fd ps (spB X.K N 2 F)) (hr : RmG k X.A) (hb : Binds X.K fd ps []) (ha : BE X N W a f) (hb' : BE X N W b g) :
    BE X N W (.BinOp a op b pos) (bnd f fun x => bnd g fun y => bnd (chkI c x) fun _ => bnd (chkK t y) fun _ => callV [false, false] F [x, y]) :=
  pe_weak (pe_ownK (E := fun σ => WE W σ) O G hr hb (fun σ => passAt tk σ) ha hb') fun σ H Q ⟨ρ, R, r, h⟩ => ⟨ρ, R, r, Pst.bnd' .refl h fun x ρ1 v H1 R1 s1 _ r1 e1 h1 => ⟨ρ1, R1, r1, Pst.bnd' s1 h1 fun y ρ2 u H2 R2 s2 s12 r2 e2 h2 =>
    chkI_use h2 r2 (e1.mono s12) fun i dx fs gs ev q2 q3 h3 => by
      subst ev
      unfold chkK at h3
      rcases deref_ok r2 e2 with ⟨p, e3, d⟩ | e3
      · simp only [bnd, e3] at h3
        by_cases hk : t p.kd = true
        · rw [if_pos hk] at h3
          obtain ⟨t1, t2, t3, t4⟩ := T _ hk
          exact ⟨i, dx, gs, rfl, q2, ⟨_, tyx_of d r2.sub t1 t2 t3, t4⟩, callV_ok (ms := [false, false]) s2 r2 (EvsR.cons e1 s12 s1.live (EvsR.cons e2 .refl (fun _ z => s12.live _ z) .nil)) h3⟩
        · rw [if_neg hk] at h3; exact h3.elim
      · simp only [bnd, e3] at h3
        exact h3.elim⟩⟩
theorem be_ownKG {op : Operator} {t : Kd → Bool} (tk : Takes X W) (c : Nat) (G : GM X.prog X.w X.K X.mg X.base N k 2 F (fun q => OwnOp X.K (N.cl c) q (PySem.dunder op.info.2))) (T : OpF X.K N (N.cl c) op.info.2 t) (hr : RmG k X.A) (ha : BE X N W a f) (hb' : BE X N W b g) :
    BE X N W (.BinOp a op b pos) (bnd f fun x => bnd g fun y => bnd (chkI c x) fun _ => bnd (chkK t y) fun _ => callV [false, false] F [x, y]) := by
  obtain ⟨q, fd, ps, G1, G2, G4⟩ := G.ex
  exact be_ownK tk c G2 T G1 hr G4 ha hb'
end
end B

set_option Elab.async false
set_option linter.all false
set_option maxRecDepth 100000
set_option maxHeartbeats 4000000
/-! BH: the law's call, from FnG -/
namespace B
open PySem L2 PySem.Spec PyProof.Rows
section
variable {P : Program} {w : World} {K : PySem.W.Frag} {mg mb : Str → Option Value} {CX : CXT} {k : Nat} {fa a : Addr} {fd : FuncData} {x : Str} {sp : Sp} {s1 : Shared} {vs : List Value} {ns : List Int}
/-- what is wanted behind the call -/
abbrev LawEnd (s1 : Shared) : Result → Shared → Prop := fun r s' => r = .ok (.ret (.bool true)) ∧ OldK s1.heap s'.heap ∧ s'.os = s1.os ∧ AllBare s'.gens
theorem law_core (KX : K.In s1.heap) (hns : s1.heap.Ns mainGlobals mg) (hb : s1.heap.Ns builtinsNs mb) (hbb : ∀ y : Str, y ≠ "__name__" → mb y = bootBuiltins y) (hlim : s1.heap.NoLimit) (hg : s1.gens = #[])
    (ha : s1.heap.get? a = some { cls := .type "list", data := .seq vs.toArray }) (hr : RmG k callerA) (F : ∀ base : Heap, K.In base → base.Ns mainGlobals mg → FnG P w K mg base CX k fa fd [x] sp)
    (hbind : ∀ (s : Shared) (u : Value), BindsTo s fd ⟨[u], []⟩ [(x, u)]) (hCX : ∀ H e s', CX [] H s1 (fun _ _ _ => False) e s' → False)
    (H : Hp) (hO : Only H) (hsp : sp [.ref a] H (fun v _ => v = .bl true) fun _ _ _ => False) (hok : HOk P w H s1.heap) (hA : ∀ b, H b ≠ none → b = a ∧ K.lookup a = none) : codeAny (model P w) callerA (.call (.ref fa) ⟨[.ref a], []⟩) (LawEnd s1) s1 := by
  have free : ∀ b, (b ≠ a ∨ K.lookup a ≠ none) → H b = none := fun b n => Classical.byContradiction fun q => n.elim (fun n => n (hA b q).1) fun n => n (hA b q).2
  have dict : ∀ {b : Addr} {m : Str → Option Value}, s1.heap.Ns b m → (hidT s1.heap H).Ns b m := fun {b m} ⟨o, es, ep, e, d, r⟩ => ⟨o, es, ep, hidT_get e (free b (.inl fun z => by
    subst z
    rw [ha] at e
    cases e
    cases d)), d, r⟩
  have hK : K.In (hidT s1.heap H) := fun b o e => hidT_get (KX b o e) (free b (by
    by_cases z : b = a
    · subst z
      exact .inr (by rw [e]; exact Option.some_ne_none o)
    · exact .inl z))
  have M : Mod K mg (hidT s1.heap H) := ⟨hK, dict hns, ⟨mb, dict hb, hbb⟩, hlim.elim fun mc h => ⟨mc, dict h.1, h.2⟩⟩
  have no : ∀ b : Addr, b ∉ ([] : List Addr) := fun b h => nomatch h
  have e0 : Env0 P w K mg (hidT s1.heap H) callerA [] s1 H := ⟨rfl, M, fun b o e => of_hidT e, Nat.le_of_eq (hidT_size _ _), trivial, fun b h => (no b h).elim, hok, .of_eq hg⟩
  refine codeAny_mono ((F _ hK (dict hns)).run callerA [] s1 H ⟨[.ref a], []⟩ [.ref a] [.ref a] _ _ hr e0 (hbind s1 _) (.cons rfl .nil) hsp) fun r s' h => ?_
  match r, h with
  | .error e, h => exact (hCX H e s' h).elim
  | .ok (.ret u), ⟨v, H', os, bare, un, hok', rv, q⟩ =>
    cases (show v = .bl true from q)
    cases (show u = Value.bool true from rv)
    refine ⟨rfl, OldK.of_keep fun b o e => ?_, os, bare⟩
    rcases hO b with z | ⟨ob, xs, z⟩
    · exact un.keep b o e z (no b) (no b)
    · have z2 := (hok b _ z).1
      rw [e] at z2
      cases z2
      exact (hok' b _ (un.frzs b o _ z)).1
theorem law_callG (KX : K.In s1.heap) (hns : s1.heap.Ns mainGlobals mg) (hb : s1.heap.Ns builtinsNs mb) (hbb : ∀ y : Str, y ≠ "__name__" → mb y = bootBuiltins y) (hlim : s1.heap.NoLimit) (hg : s1.gens = #[])
    (ha : s1.heap.get? a = some { cls := .type "list", data := .seq vs.toArray }) (hi : IntsAre vs ns) (hl : ns.length ≤ sizeLine) (hr : RmG k callerA) (F : ∀ base : Heap, K.In base → base.Ns mainGlobals mg → FnG P w K mg base CX k fa fd [x] sp)
    (hbind : ∀ (s : Shared) (u : Value), BindsTo s fd ⟨[u], []⟩ [(x, u)]) (hsp : ∀ H : Hp, Only H → SqL K H a (ns.map V.int) → sp [.ref a] H (fun v _ => v = .bl true) fun _ _ _ => False)
    (hCX : ∀ H e s', CX [] H s1 (fun _ _ _ => False) e s' → False) : codeAny (model P w) callerA (.call (.ref fa) ⟨[.ref a], []⟩) (LawEnd s1) s1 := by
  have rv := vals_ints hi
  have core := law_core (sp := sp) KX hns hb hbb hlim hg ha hr F hbind hCX
  cases hk : K.lookup a with
  | some o =>
    have e := KX a o hk
    rw [ha] at e
    cases e
    have hO : Only fun _ => none := fun _ => .inl rfl
    exact core _ hO (hsp _ hO (.inr ⟨_, vs.toArray, _, hk, rfl, rfl, rfl, by rw [List.size_toArray, hi.length]; exact hl, by simpa using rv⟩)) (fun b u z => nomatch z) fun b z => absurd rfl z
  | none =>
    let H : Hp := fun b => if b = a then some (.frz { cls := .type "list", data := .seq vs.toArray } (.lst (ns.map V.int))) else none
    have H1 : ∀ {b}, b ≠ a → H b = none := fun h => if_neg h
    have H2 : H a = some (.frz { cls := .type "list", data := .seq vs.toArray } (.lst (ns.map V.int))) := if_pos rfl
    have hO : Only H := fun b => by
      by_cases z : b = a
      · subst z; exact .inr ⟨_, _, H2⟩
      · exact .inl (H1 z)
    refine core H hO (hsp H hO (.inl (.inr ⟨_, H2⟩))) (fun b u z => ?_) fun b z => ⟨Classical.byContradiction fun q => z (H1 q), hk⟩
    by_cases e : b = a
    · subst e
      rw [H2] at z
      cases z
      exact ⟨ha, by rw [List.length_map]; exact hl, vs, _, rv, ha⟩
    · rw [H1 e] at z
      cases z
end
/-- the goal that the head leaves -/
theorem walkG {l : PySem.W.OpenLaw} {n k : Nat} {q : Program} {loose : List Str} {XP : (Str → Option Value) → Heap → Prop} {YP : World → Heap → Prop} {d : DefRec} {CX : CXT} {x : Str} (hn : l.most = some n) (hn2 : n ≤ sizeLine) (hdf : d.params.defaults = []) (hr : RmG k callerA)
    (F : ∀ (w : World) (mg : Str → Option Value) (fa : Addr) (h : Heap), YP w h → h.Ns mainGlobals mg → mg d.name = some (.ref fa) → ∃ (K : PySem.W.Frag) (fd : FuncData) (sp : Sp), K.In h ∧ (∀ (s : Shared) (u : Value), BindsTo s fd ⟨[u], []⟩ [(x, u)]) ∧
      (∀ (H : Hp) (a : Addr) (ns : List Int), ns.length ≤ n → Only H → SqL K H a (ns.map V.int) → sp [.ref a] H (fun v _ => v = .bl true) fun _ _ _ => False) ∧ ∀ base : Heap, K.In base → base.Ns mainGlobals mg → FnG l.prog w K mg base CX k fa fd [x] sp)
    (hCX : ∀ (H : Hp) (s : Shared) (e : Value) (s' : Shared), CX [] H s (fun _ _ _ => False) e s' → False) : PySem.W.WalkO q loose XP YP l.row.toRowW d [] (fun f vs => PySem.call f vs) := by
  refine Att.attach_call hn hdf fun w s0 s1 mg mb fa o pm cd doc a vs ns G Y ho hd hcd hmg hobj hints hlen hg => ?_
  obtain ⟨K, fd, sp, KX, hb, hsp, hF⟩ := F w mg fa _ Y G.T.g hmg
  exact law_callG KX G.T.g G.T.b G.T.builtins G.T.nolimit hg hobj hints (Nat.le_trans hlen hn2) hr hF hb (fun H hO hS => hsp H a ns hlen hO hS) fun H e s' => hCX H s1 e s'
end B

set_option Elab.async false
set_option linter.all false
set_option maxRecDepth 100000
set_option maxHeartbeats 4000000
/-! B28: facts of the head for exceptions and own operators -/
namespace B
open PySem L2
section
variable {K : PySem.W.Frag}
/-- which of the classes js an except clause of the class at C catches -/
def tabX (js yes : List Nat) : Nat → Option Bool := fun j => if js.contains j then some (yes.contains j) else none
def fExm (N : PySem.W.Frag → Nm) (C : Nat) (js yes : List Nat) (K : PySem.W.Frag) : Bool := js.all fun j => decide (PySem.W.exmOne K (.ref ((N K).cl j)) (.ref ((N K).cl C)) = some (yes.contains j))
theorem exmT_ok {N : PySem.W.Frag → Nm} {C : Nat} {js yes : List Nat} (c : fExm N C js yes K = true) : ∀ j b, tabX js yes j = some b → PySem.W.exmOne K (.ref ((N K).cl j)) (.ref ((N K).cl C)) = some b := fun j b e => by
  unfold tabX at e
  by_cases h : js.contains j = true
  · rw [if_pos h] at e
    cases e
    exact of_decide_eq_true (List.all_eq_true.mp c j (by simpa using h))
  · rw [if_neg h] at e; cases e
theorem raiseF_ok {x : Str} (c : fFa (.exc x) K = true) : RaiseF K (He.ga K x) :=
  let ⟨a, b, d, e⟩ := He.exc_ok c
  ⟨a, b, d, e⟩
def fOpK (x : Str) (C : Nat) (nm : String) (ks : List Kd) (K : PySem.W.Frag) : Bool := ks.all fun k => match k with
  | .non => fOwnT x nm "NoneType" K
  | .bl => fOwnT x nm "bool" K
  | .int => fOwnT x nm "int" K
  | .str => fOwnT x nm "str" K
  | .lst => fOwnT x nm "list" K
  | .tup => fOwnT x nm "tuple" K
  | .dct => fOwnT x nm "dict" K
  | .own c => decide (c = C)
  | _ => false
theorem opK_ok {N : PySem.W.Frag → Nm} {x : Str} {C : Nat} {nm : String} {ks : List Kd} (c : fOpK x C nm ks K = true) (hx : (N K).cl C = He.ga K x) (hi : InstF K ((N K).cl C)) : OpF K (N K) ((N K).cl C) nm (fun k => ks.contains k) := fun k hk => by
  have h := List.all_eq_true.mp c k (by simpa using hk)
  cases k with
  | own i =>
    have e : i = C := of_decide_eq_true h
    subst e
    exact ⟨nofun, fun c e => (by cases e; exact hi), nofun, .inl rfl⟩
  | non => exact ⟨nofun, nofun, nofun, .inr ⟨_, rfl, hx ▸ ownT_ok h⟩⟩
  | bl => exact ⟨nofun, nofun, nofun, .inr ⟨_, rfl, hx ▸ ownT_ok h⟩⟩
  | int => exact ⟨nofun, nofun, nofun, .inr ⟨_, rfl, hx ▸ ownT_ok h⟩⟩
  | str => exact ⟨nofun, nofun, nofun, .inr ⟨_, rfl, hx ▸ ownT_ok h⟩⟩
  | lst => exact ⟨nofun, nofun, nofun, .inr ⟨_, rfl, hx ▸ ownT_ok h⟩⟩
  | tup => exact ⟨nofun, nofun, nofun, .inr ⟨_, rfl, hx ▸ ownT_ok h⟩⟩
  | dct => exact ⟨nofun, nofun, nofun, .inr ⟨_, rfl, hx ▸ ownT_ok h⟩⟩
  | exc i => exact nomatch h
  | oth => exact nomatch h
end
end B

set_option Elab.async false
set_option linter.all false
set_option maxRecDepth 100000
set_option maxHeartbeats 4000000
/-! B29: name = [..] -/
namespace B
open PySem L2
section
variable {X : Cx} {N : Nm} {W : WX} {P vs : List Nat} {elt tg iter a b : Expr} {ifs : List Expr} {scope : Scope} {pos spos py p pos0 : Pos} {f te : M EV} {fa : M (List EV)} {tt : M Bool} {t : TgS} {y : Str}
theorem set_use {o : Bool} {i : Nat} {m : M EV} (hp : i ∉ P) : ∀ (D : Ends) (σ : L2.St) (H : Hp), tS X.K N W P (doS m fun v => setS o i v) D σ H → tE X.K N W m σ H (fun x H1 => gName i x σ H1 D.nx) := fun D σ H ⟨ρ, R, r, h⟩ =>
  ⟨ρ, R, r, PsS.doE (fun _ _ _ z => z) h fun v ρ1 u H1 R1 s1 r1 e1 h1 => setS_ok hp s1 r1 e1 h1⟩
abbrev BlkG (X : Cx) (N : Nm) (scope : Scope) (tg : Expr) (vs : List Nat) (t : TgS) : Prop := ∀ (s : Shared) (H : Hp) (C : Addr) (cl : List (Str × Addr)) (fp : List Addr), ∀ P, (∀ i ∈ vs, i ∉ P) → BG (X.blk s H scope (compEnvC scope cl C X.env) fp) N P tg t
abbrev BlkT (X : Cx) (N : Nm) (scope : Scope) (ifs : List Expr) (tt : M Bool) : Prop := ∀ (s : Shared) (H : Hp) (C : Addr) (cl : List (Str × Addr)) (fp : List Addr), BTs (X.blk s H scope (compEnvC scope cl C X.env) fp) N W0 ifs tt
abbrev BlkE (X : Cx) (N : Nm) (scope : Scope) (elt : Expr) (te : M EV) : Prop := ∀ (s : Shared) (H : Hp) (C : Addr) (cl : List (Str × Addr)) (fp : List Addr), BE (X.blk s H scope (compEnvC scope cl C X.env) fp) N W0 elt te
theorem bs_setLcL (o : Bool) (i : Nat) (own : List (Str × Nat)) (hc : X.calm = true) (hN : X.N.Nodup) (hi : BE X N W iter f) (ok : BlkOk X.N X.env.scope scope own) (hg : BlkG X N scope tg (own.map (·.2)) t) (ht : BlkT X N scope ifs tt) (he : BlkE X N scope elt te)
    (hk : X.env.scope.kind = .function := by rfl) (hl : (py.line == pos.line) = true := by rfl) (hnn : (scope.names.any fun (n, k) => n == y && (k == .local || k == .cell)) = false := by decide +kernel) (hp : i ∉ P := by decide)
    (hy : X.N[i]? = some y := by rfl) (hyl : X.env.scope.names.lookup y = some .local := by rfl) (hs : ∀ x, foldedSetIterable iter X.env x = pure x := by intro _; rfl) :
    BS X N W P (.Assign [.Name y py] (.ListComp elt [⟨tg, iter, ifs, 0⟩] scope pos) spos) (doS (bnd f fun x => lcV itemsL t (own.map (·.2)) tt te x) fun v => setS o i v) :=
  ps_weak (ps_setLc (g := gC X.K N (own.map fun z : Str × Nat => z.2) t) (tt := tT X.K N W0 tt) (te := tE X.K N W0 te) hc hN hy hyl (sw_true hk hyl hl hnn) (pi_list hi) ok (fun s H C cl fp => bgc (hg s H C cl fp)) ht he hs) fun D σ H h => lcL_use own σ H _ (set_use hp D σ H h)
theorem bs_setLcT (o : Bool) (i : Nat) (own : List (Str × Nat)) (hc : X.calm = true) (hN : X.N.Nodup) (hi : BE X N W iter f) (ok : BlkOk X.N X.env.scope scope own) (hg : BlkG X N scope tg (own.map (·.2)) t) (ht : BlkT X N scope ifs tt) (he : BlkE X N scope elt te)
    (hk : X.env.scope.kind = .function := by rfl) (hl : (py.line == pos.line) = true := by rfl) (hnn : (scope.names.any fun (n, k) => n == y && (k == .local || k == .cell)) = false := by decide +kernel) (hp : i ∉ P := by decide)
    (hy : X.N[i]? = some y := by rfl) (hyl : X.env.scope.names.lookup y = some .local := by rfl) (hs : ∀ x, foldedSetIterable iter X.env x = pure x := by intro _; rfl) :
    BS X N W P (.Assign [.Name y py] (.ListComp elt [⟨tg, iter, ifs, 0⟩] scope pos) spos) (doS (bnd f fun x => lcV itemsT t (own.map (·.2)) tt te x) fun v => setS o i v) :=
  ps_weak (ps_setLc (g := gC X.K N (own.map fun z : Str × Nat => z.2) t) (tt := tT X.K N W0 tt) (te := tE X.K N W0 te) hc hN hy hyl (sw_true hk hyl hl hnn) (pi_tup hi) ok (fun s H C cl fp => bgc (hg s H C cl fp)) ht he hs) fun D σ H h => lcT_use own σ H _ (set_use hp D σ H h)
theorem bs_setLcR1 (o : Bool) (i : Nat) (own : List (Str × Nat)) (hc : X.calm = true) (hN : X.N.Nodup) (hgl : Gl X "range") (hm : X.mg "range" = none) (ha : BA X N W [a] fa) (ok : BlkOk X.N X.env.scope scope own) (hg : BlkG X N scope tg (own.map (·.2)) t) (ht : BlkT X N scope ifs tt) (he : BlkE X N scope elt te)
    (hk : X.env.scope.kind = .function := by rfl) (hl : (py.line == pos.line) = true := by rfl) (hnn : (scope.names.any fun (n, k) => n == y && (k == .local || k == .cell)) = false := by decide +kernel) (hp : i ∉ P := by decide)
    (hy : X.N[i]? = some y := by rfl) (hyl : X.env.scope.names.lookup y = some .local := by rfl) (hs0 : starEach [a] X.env = [(false, eval a X.env)] := by rfl) (hs : ∀ x, foldedSetIterable (.Call (.Name "range" p) [a] [] pos0) X.env x = pure x := by intro _; rfl) :
    BS X N W P (.Assign [.Name y py] (.ListComp elt [⟨tg, .Call (.Name "range" p) [a] [] pos0, ifs, 0⟩] scope pos) spos) (doS (bnd fa fun xs => lcR1 t (own.map (·.2)) tt te xs) fun v => setS o i v) :=
  ps_weak (ps_setLc (g := gC X.K N (own.map fun z : Str × Nat => z.2) t) (tt := tT X.K N W0 tt) (te := tE X.K N W0 te) hc hN hy hyl (sw_true hk hyl hl hnn) (pi_range1 hgl hm ha hs0) ok (fun s H C cl fp => bgc (hg s H C cl fp)) ht he hs) fun D σ H h => lcR1_use own σ H _ (set_use hp D σ H h)
theorem bs_setLcR2 (o : Bool) (i : Nat) (own : List (Str × Nat)) (hc : X.calm = true) (hN : X.N.Nodup) (hgl : Gl X "range") (hm : X.mg "range" = none) (ha : BA X N W [a, b] fa) (ok : BlkOk X.N X.env.scope scope own) (hg : BlkG X N scope tg (own.map (·.2)) t) (ht : BlkT X N scope ifs tt) (he : BlkE X N scope elt te)
    (hk : X.env.scope.kind = .function := by rfl) (hl : (py.line == pos.line) = true := by rfl) (hnn : (scope.names.any fun (n, k) => n == y && (k == .local || k == .cell)) = false := by decide +kernel) (hp : i ∉ P := by decide)
    (hy : X.N[i]? = some y := by rfl) (hyl : X.env.scope.names.lookup y = some .local := by rfl) (hs0 : starEach [a, b] X.env = [(false, eval a X.env), (false, eval b X.env)] := by rfl) (hs2 : starEach [b] X.env = [(false, eval b X.env)] := by rfl)
    (hs : ∀ x, foldedSetIterable (.Call (.Name "range" p) [a, b] [] pos0) X.env x = pure x := by intro _; rfl) :
    BS X N W P (.Assign [.Name y py] (.ListComp elt [⟨tg, .Call (.Name "range" p) [a, b] [] pos0, ifs, 0⟩] scope pos) spos) (doS (bnd fa fun xs => lcR2 t (own.map (·.2)) tt te xs) fun v => setS o i v) :=
  ps_weak (ps_setLc (g := gC X.K N (own.map fun z : Str × Nat => z.2) t) (tt := tT X.K N W0 tt) (te := tE X.K N W0 te) hc hN hy hyl (sw_true hk hyl hl hnn) (pi_range2 hgl hm ha hs0 hs2) ok (fun s H C cl fp => bgc (hg s H C cl fp)) ht he hs) fun D σ H h => lcR2_use own σ H _ (set_use hp D σ H h)
end
end B

set_option Elab.async false
set_option linter.all false
set_option maxRecDepth 100000
set_option maxHeartbeats 4000000
/-! B30: loops, comprehensions by their turns; the length of what repr says -/
namespace B
open PySem L2
section
variable {t : TgS} {body g h : MS} {p : PV} {ps : List PV} {ρ ρ1 ρ2 : Env}
theorem forS_nx (h1 : t p ρ = some ρ1) (h2 : body ρ1 = .nx ρ2) : forS t body (p :: ps) ρ = forS t body ps ρ2 := by
  rw [forS]
  simp only [h1, h2]
theorem forS_ct (h1 : t p ρ = some ρ1) (h2 : body ρ1 = .ct ρ2) : forS t body (p :: ps) ρ = forS t body ps ρ2 := by
  rw [forS]
  simp only [h1, h2]
theorem forS_inv (J : Env → Prop) : ∀ (ps : List PV) (ρ : Env), J ρ → (∀ p ∈ ps, ∀ ρ, J ρ → ∃ ρ1 ρ2, t p ρ = some ρ1 ∧ body ρ1 = .nx ρ2 ∧ J ρ2) → ∃ ρ', forS t body ps ρ = .nx ρ' ∧ J ρ'
  | [], ρ, h, _ => ⟨ρ, rfl, h⟩
  | p :: ps, ρ, h, k => by
    obtain ⟨ρ1, ρ2, e1, e2, h2⟩ := k p (by simp) ρ h
    obtain ⟨ρ3, e3, h3⟩ := forS_inv J ps ρ2 h2 fun q hq => k q (by simp [hq])
    exact ⟨ρ3, (forS_nx e1 e2).trans e3, h3⟩
/-- the invariant counts the turns -/
theorem forS_cnt (J : Nat → Env → Prop) : ∀ (ps : List PV) (n : Nat) (ρ : Env), J n ρ → (∀ p ∈ ps, ∀ k, n ≤ k → k < n + ps.length → ∀ ρ, J k ρ → ∃ ρ1 ρ2, t p ρ = some ρ1 ∧ body ρ1 = .nx ρ2 ∧ J (k + 1) ρ2) → ∃ ρ', forS t body ps ρ = .nx ρ' ∧ J (n + ps.length) ρ'
  | [], n, ρ, h, _ => ⟨ρ, rfl, h⟩
  | p :: ps, n, ρ, h, k => by
    obtain ⟨ρ1, ρ2, e1, e2, h2⟩ := k p (by simp) n (Nat.le_refl _) (by simp) ρ h
    obtain ⟨ρ3, e3, h3⟩ := forS_cnt J ps (n + 1) ρ2 h2 fun q hq j h1 h2 => k q (by simp [hq]) j (by omega) (by simp only [List.length_cons]; omega)
    refine ⟨ρ3, (forS_nx e1 e2).trans e3, ?_⟩
    have : n + (p :: ps).length = n + 1 + ps.length := by simp only [List.length_cons]; omega
    rw [this]
    exact h3
theorem forS_keep {i : Nat} {body : MS} : ∀ (ps : List PV) (ρ : Env), i < ρ.length → (∀ p ∈ ps, body (ρ.set i (some (.fz p))) = .nx (ρ.set i (some (.fz p)))) → ∃ o, forS (tgN i) body ps ρ = .nx (ρ.set i o)
  | [], ρ, hi, _ => ⟨ρ[i], by show So.nx ρ = _; rw [List.set_getElem_self]⟩
  | p :: ps, ρ, hi, h => by
    obtain ⟨o, e⟩ := forS_keep (body := body) ps (ρ.set i (some (.fz p))) (by simpa using hi) fun q hq => by rw [List.set_set]; exact h q (by simp [hq])
    refine ⟨o, ?_⟩
    rw [forS_nx (ρ1 := ρ.set i (some (.fz p))) (ρ2 := ρ.set i (some (.fz p))) rfl (h p (by simp)), e, List.set_set]
theorem seq_nx {r : So} (e : g ρ = .nx ρ1) (f : h ρ1 = r) : seq g h ρ = r := by
  unfold seq
  rw [e]
  exact f
end
section
variable {i : Nat} {tt : M Bool} {te : M EV} {E : Env}
/-- [x for x in ps if ..] -/
theorem lc_filt (P : PV → Bool) (hi : i < E.length) : ∀ (ps acc : List PV), (∀ p ∈ ps, tt (E.set i (some (.fz p))) = .ok (P p) (E.set i (some (.fz p)))) → lcF (tgN i) [i] tt (getV i) ps acc (E.set i none) = .ok (acc ++ ps.filter P) (E.set i none)
  | [], acc, _ => by simp [lcF, pur]
  | p :: ps, acc, h => by
    have ih := fun acc => lc_filt P hi ps acc fun q hq => h q (by simp [hq])
    have h1 := h p (by simp)
    have e1 : tgN i p (E.set i none) = some (E.set i (some (.fz p))) := by simp [tgN]
    have e2 : getV i (E.set i (some (.fz p))) = .ok (.fz p) (E.set i (some (.fz p))) := by simp [getV, hi]
    have w : wipeE (E.set i (some (.fz p))) [i] = E.set i none := by simp [wipeE]
    rw [lcF]
    cases hp : P p with
    | true =>
      rw [hp] at h1
      have e3 : lcTurn (tgN i) tt (getV i) p (E.set i none) = .ok (some p) (E.set i (some (.fz p))) := by
        unfold lcTurn
        rw [e1]
        simp only [List.length_set, if_true, h1, e2, frz]
      simp only [e3, Option.toList, w]
      rw [ih]
      simp [hp]
    | false =>
      rw [hp] at h1
      have e3 : lcTurn (tgN i) tt (getV i) p (E.set i none) = .ok none (E.set i (some (.fz p))) := by
        unfold lcTurn
        rw [e1]
        simp only [List.length_set, if_true, h1]
      simp only [e3, Option.toList, w, List.append_nil]
      rw [ih]
      simp [hp]
theorem lcN_filt (P : PV → Bool) (hi : i < E.length) {ps : List PV} (hl : ps.length ≤ sizeLine) (h : ∀ p ∈ ps, tt (E.set i (some (.fz p))) = .ok (P p) (E.set i (some (.fz p)))) : lcN (tgN i) [i] tt (getV i) ps E = .ok (.nw (.ow (ps.filter P))) (E.set i none) := by
  have w : wipeE E [i] = E.set i none := rfl
  unfold lcN
  rw [if_pos hl, w, lc_filt P hi ps [] h]
  rfl
/-- [f(x) for x in ps] -/
theorem lc_map (f : PV → PV) : ∀ (ps acc : List PV), (∀ p ∈ ps, te (E.set i (some (.fz p))) = .ok (.fz (f p)) (E.set i (some (.fz p)))) → lcF (tgN i) [i] (pur true) te ps acc (E.set i none) = .ok (acc ++ ps.map f) (E.set i none)
  | [], acc, _ => by simp [lcF, pur]
  | p :: ps, acc, h => by
    have ih := fun acc => lc_map f ps acc fun q hq => h q (by simp [hq])
    have h1 := h p (by simp)
    have e1 : tgN i p (E.set i none) = some (E.set i (some (.fz p))) := by simp [tgN]
    have w : wipeE (E.set i (some (.fz p))) [i] = E.set i none := by simp [wipeE]
    have e3 : lcTurn (tgN i) (pur true) te p (E.set i none) = .ok (some (f p)) (E.set i (some (.fz p))) := by
      unfold lcTurn
      rw [e1]
      simp only [List.length_set, if_true, h1, frz, pur]
    rw [lcF]
    simp only [e3, Option.toList, w]
    rw [ih]
    simp
theorem lcN_map (f : PV → PV) {ps : List PV} (hl : ps.length ≤ sizeLine) (h : ∀ p ∈ ps, te (E.set i (some (.fz p))) = .ok (.fz (f p)) (E.set i (some (.fz p)))) : lcN (tgN i) [i] (pur true) te ps E = .ok (.nw (.ow (ps.map f))) (E.set i none) := by
  have w : wipeE E [i] = E.set i none := rfl
  unfold lcN
  rw [if_pos hl, w, lc_map f ps [] h]
  rfl
end
/-! ### lengths -/
theorem textFrom_le : ∀ (ts : List Str) (k : Nat) (acc : Str), (textFrom k acc ts).length ≤ acc.length + piled ts
  | [], k, acc => by simp [textFrom, piled]
  | t :: ts, k, acc => by
    have h := textFrom_le ts (k + 1) (acc ++ (if k > 0 then ", " else "" : String) ++ t)
    have e : (acc ++ ((if k > 0 then ", " else "" : String) : Str) ++ t).length ≤ acc.length + 2 + t.length := by
      rw [strLen_append, strLen_append]
      split
      · have : ((", " : String) : Str).length = 2 := rfl
        omega
      · have : (("" : String) : Str).length = 0 := rfl
        omega
    rw [piled_cons]
    exact Nat.le_trans h (by omega)
theorem listText_le (ts : List Str) : (listText ts).length ≤ piled ts + 2 := by
  unfold listText
  rw [strLen_append]
  have h := textFrom_le ts 0 ("[" : String)
  have e1 : (("[" : String) : Str).length = 1 := rfl
  have e2 : (("]" : String) : Str).length = 1 := rfl
  rw [e2]
  rw [e1] at h
  omega
theorem int_len {i : Int} (h : i.natAbs.log2 < 1920) : ((toString i : String) : Str).length ≤ 1921 := by
  have := int_text_length_le (k := 1920) (by decide) h
  rw [ofString_length]
  exact this
/-- repr of an int, of a list of ints -/
theorem repr_int {i : Int} (h : i.natAbs.log2 < 1920) : sReprD [.at (.int i)] = some (.fz (.at (.str (toString i)))) := by
  have l := int_len h
  have s : ((toString i : String) : Str).length ≤ sizeLine := Nat.le_trans l (by decide)
  have s' : (PyData.int i).shown.length ≤ sizeLine := by simp only [PyData.shown]; exact s
  have c1 : (PyData.int i).showable = true := by simp only [PyData.showable]; exact decide_eq_true h
  have c2 : (PyData.int i).hasDict = false := by simp only [PyData.hasDict]
  have c3 : (PyData.int i).depth ≤ 50 := by simp only [PyData.depth]; omega
  have c : ((PyData.int i).showable && !(PyData.int i).hasDict && decide ((PyData.int i).shown.length ≤ sizeLine) && decide ((PyData.int i).depth ≤ 50)) = true := by
    rw [c1, c2, decide_eq_true s', decide_eq_true c3]
    rfl
  simp only [sReprD, pd]
  rw [if_pos c]
  simp only [PyData.shown]
theorem pds_ints : ∀ ys : List Int, pds (ys.map fun i => PV.at (.int i)) = some (ys.map .int)
  | [] => by simp [pds]
  | y :: ys => by simp [pds, pd, pds_ints ys]
theorem repr_ints {ys : List Int} (h : ∀ i ∈ ys, i.natAbs.log2 < 1920) (hl : ys.length ≤ 1000) : ∃ s : Str, sReprD [.lst (ys.map fun i => .at (.int i))] = some (.fz (.at (.str s))) := by
  have a : PyData.showableAll (ys.map .int) = true ∧ PyData.hasDictAll (ys.map .int) = false ∧ PyData.depthAll (ys.map .int) ≤ 1 ∧ piled (PyData.shownAll (ys.map .int)) ≤ 1923 * ys.length := by
    clear hl
    induction ys with
    | nil => simp [PyData.showableAll, PyData.hasDictAll, PyData.depthAll, PyData.shownAll, piled]
    | cons y ys ih =>
      obtain ⟨h1, h2, h3, h4⟩ := ih fun i hi => h i (by simp [hi])
      have hy := h y (by simp)
      have l := int_len hy
      simp only [List.map_cons, PyData.showableAll, PyData.hasDictAll, PyData.depthAll, PyData.shownAll, piled_cons, PyData.showable, PyData.hasDict, PyData.depth, PyData.shown, List.length_cons]
      refine ⟨by simp [hy, h1], by simp [h2], by omega, by omega⟩
  obtain ⟨h1, h2, h3, h4⟩ := a
  have z := listText_le (PyData.shownAll (ys.map .int))
  have z2 : (listText (PyData.shownAll (ys.map .int))).length ≤ sizeLine := Nat.le_trans z (Nat.le_trans (show _ ≤ 2000000 by omega) (by decide))
  have s' : (PyData.list (ys.map .int)).shown.length ≤ sizeLine := by simp only [PyData.shown]; exact z2
  have c1 : (PyData.list (ys.map .int)).showable = true := by simp only [PyData.showable]; exact h1
  have c2 : (PyData.list (ys.map .int)).hasDict = false := by simp only [PyData.hasDict]; exact h2
  have c3 : (PyData.list (ys.map .int)).depth ≤ 50 := by simp only [PyData.depth]; omega
  have c : ((PyData.list (ys.map .int)).showable && !(PyData.list (ys.map .int)).hasDict && decide ((PyData.list (ys.map .int)).shown.length ≤ sizeLine) && decide ((PyData.list (ys.map .int)).depth ≤ 50)) = true := by
    rw [c1, c2, decide_eq_true s', decide_eq_true c3]
    rfl
  refine ⟨(PyData.list (ys.map .int)).shown, ?_⟩
  have e : pd (.lst (ys.map fun i => .at (.int i))) = some (.list (ys.map .int)) := by
    simp only [pd, pds_ints, Option.map_some]
  simp only [sReprD, e]
  rw [if_pos c]
end B

set_option Elab.async false
set_option linter.all false
set_option maxRecDepth 100000
set_option maxHeartbeats 4000000
/-! B31: texts walked, text in text, text * n, int of a bool, t.count, t[::-1] of a tuple -/
namespace B
open PySem L2
/-- the signs of a text, each a text -/
def itemsS (p : PV) : Option (List PV) := match p with
  | .at (.str z) => some (z.cps.toList.map fun c => .at (.str ⟨#[c]⟩))
  | _ => none
section
variable {X : Cx} {N : Nm} {W : WX} {P vs : List Nat} {elt tg iter : Expr} {ifs : List Expr} {scope : Scope} {pos : Pos} {f te : M EV} {tt : M Bool} {t : TgS}
theorem lcS_use (own : List (Str × Nat)) : ∀ (σ : L2.St) (H : Hp) (Q : VK), tE X.K N W (bnd f fun x => lcV itemsS t (own.map (·.2)) tt te x) σ H Q → tLc (iStr (tE X.K N W f)) (gC X.K N (own.map (·.2)) t) (tT X.K N W0 tt) (tE X.K N W0 te) (own.map (·.2)) σ H Q :=
  fun σ H Q ⟨ρ, R, r, h⟩ => ⟨ρ, R, r, Pst.bnd' .refl h fun x ρ1 v H1 R1 s1 _ r1 e1 h1 => by
    unfold lcV at h1
    rcases frz_ok s1 r1 e1 with e | ⟨p, ρ2, R2, e, s2, r2, rp, sb, _⟩
    · simp only [bnd, e] at h1
      exact h1.elim
    · simp only [bnd, e] at h1
      cases e3 : itemsS p with
      | none => rw [e3] at h1; exact h1.elim
      | some ps =>
        rw [e3] at h1
        obtain ⟨z, rfl, rfl⟩ : ∃ z : Str, v = V.str z ∧ ps = z.cps.toList.map fun c => PV.at (.str ⟨#[c]⟩) := by
          cases rp with
          | «at» v =>
            cases v with
            | str z => cases e3; exact ⟨z, rfl, rfl⟩
            | _ => cases e3
          | lst => cases e3
          | scr => cases e3
          | tup => cases e3
          | ins => cases e3
          | exc => cases e3
          | excF => cases e3
          | dct => cases e3
        refine ⟨z, rfl, ?_⟩
        have ln : (z.cps.toList.map fun c => PV.at (.str ⟨#[c]⟩)).length = z.cps.size := by simp
        exact lc_run (K := X.K) (N := N) (t := t) (tt := tt) (te := te) (J := Its z) s2 r2 (lcN_use h1).1 (fun H' R' _ _ => by rw [ln]; exact Nat.le_refl _) (fun i H' R' _ _ hi => by rw [ln] at hi; exact hi)
          (fun i H' R' x H'' p _ _ hp y => by
            obtain ⟨y1, c, y2, y3⟩ := y
            rw [List.getElem?_map] at hp
            have : z.cps.toList[i]? = some c := by rw [Array.getElem?_toList]; exact y2
            rw [this] at hp
            cases hp
            subst y3
            exact ⟨y1, .at _⟩) (lcN_use h1).2⟩
/-- [elt for c in text if ..] -/
theorem be_lcS (own : List (Str × Nat)) (hc : X.calm = true) (hN : X.N.Nodup) (hi : BE X N W iter f) (ok : BlkOk X.N X.env.scope scope own)
    (hg : ∀ (s : Shared) (H : Hp) (C : Addr) (cl : List (Str × Addr)) (fp : List Addr), ∀ P, (∀ i ∈ own.map (·.2), i ∉ P) → BG (X.blk s H scope (compEnvC scope cl C X.env) fp) N P tg t)
    (ht : ∀ (s : Shared) (H : Hp) (C : Addr) (cl : List (Str × Addr)) (fp : List Addr), BTs (X.blk s H scope (compEnvC scope cl C X.env) fp) N W0 ifs tt)
    (he : ∀ (s : Shared) (H : Hp) (C : Addr) (cl : List (Str × Addr)) (fp : List Addr), BE (X.blk s H scope (compEnvC scope cl C X.env) fp) N W0 elt te) (hs : ∀ x, foldedSetIterable iter X.env x = pure x := by intro _; rfl) :
    BE X N W (.ListComp elt [⟨tg, iter, ifs, 0⟩] scope pos) (bnd f fun x => lcV itemsS t (own.map (·.2)) tt te x) :=
  pe_weak (pe_lc (g := gC X.K N (own.map (·.2)) t) (tt := tT X.K N W0 tt) (te := tE X.K N W0 te) hc hN (pi_str hi) ok (fun s H C cl fp => bgc (hg s H C cl fp)) ht he hs) (lcS_use own)
end
/-! ### a text in a text -/
section
variable {K : PySem.W.Frag} {N : Nm}
def occP (x y : Str) : Bool := !(Builtin.Str.occurrences y x 0 y.length 1).isEmpty
def sInS : PV → PV → Option EV
  | .at (.str x), .at (.str y) => some (.fz (.at (.bl (occP x y))))
  | _, _ => none
theorem os_inS : OpS K N (fun x y H Q => ∃ i j, x = .str i ∧ y = .str j ∧ Q (.bl (!(Builtin.Str.occurrences j i 0 j.length 1).isEmpty)) H) sInS := fun H R p q e x y Q sb d1 d2 hs k => by
  unfold sInS at hs
  split at hs
  · cases hs
    cases repd_at d1; cases repd_at d2
    exact ⟨_, _, rfl, rfl, k _ H R (Gr.refl sb) (.at _)⟩
  · cases hs
/-! ### int of a bool -/
def sIntB : List PV → Option EV
  | [.at (.bl k)] => some (.fz (.at (.int (if k then 1 else 0))))
  | _ => none
theorem cs_intB : CallS K N (fun xs H Q => (∃ i, xs = [.int i] ∧ Q (.int i) H) ∨ ∃ k, xs = [.bl k] ∧ Q (.int (if k then 1 else 0)) H) sIntB := fun H R ps e vs Q sb d hs k => by
  unfold sIntB at hs
  split at hs
  · rename_i b
    match vs, d with
    | [v], d =>
      cases hs
      cases repd_at d.1
      exact .inr ⟨b, rfl, k _ H R (Gr.refl sb) (.at _)⟩
  · cases hs
def sInt : List PV → Option EV := fun ps => match sIntS ps with
  | some e => some e
  | none => sIntB ps
/-! ### text * n -/
def repS (x : Str) (n : Int) : Str := if (n == 1 || x.length == 0) = true then x else ⟨(List.replicate n.toNat x.cps).foldl (· ++ ·) #[]⟩
theorem repA (a : Array Nat) : ∀ (k : Nat) (acc : Array Nat), ((List.replicate k a).foldl (· ++ ·) acc).toList = acc.toList ++ (List.replicate k a.toList).flatten
  | 0, acc => by simp
  | k + 1, acc => by
    rw [List.replicate_succ, List.foldl_cons, repA a k, List.replicate_succ, List.flatten_cons, Array.toList_append, List.append_assoc]
theorem repS_tl {x : Str} {n : Int} (h : 1 ≤ n) : (repS x n).cps.toList = (List.replicate n.toNat x.cps.toList).flatten := by
  unfold repS
  split
  · rename_i c
    rcases Bool.or_eq_true _ _ ▸ c with c | c
    · have : n = 1 := eq_of_beq c
      subst this
      simp
    · have c := eq_of_beq c
      have e : x.cps.toList = [] := by
        have : x.cps.size = 0 := c
        simpa using this
      rw [e]
      simp
  · show ((List.replicate n.toNat x.cps).foldl (· ++ ·) #[]).toList = _
    rw [repA]
    rfl
theorem repS_len {x : Str} {n : Int} (h : 1 ≤ n) : (repS x n).length = x.length * n.toNat := by
  have e := congrArg List.length (repS_tl (x := x) h)
  rw [List.length_flatten, List.map_replicate, List.sum_replicate_nat] at e
  have : (repS x n).length = (repS x n).cps.toList.length := by simp [Str.length]
  rw [this, e, Nat.mul_comm]
  simp [Str.length]
def rRepS : R2 := fun x y H Q => ∃ z n, x = .str z ∧ y = .int n ∧ 1 ≤ n ∧ n ≤ 4294967296 ∧ z.length * n.toNat ≤ sizeLine ∧ Q (.str (repS z n)) H
theorem op_repS {X : Cx} : OpR X (binaryOp .Mult) rRepS := by
  intro pins s σ H x y v u Q I rx ry h
  obtain ⟨z, n, rfl, rfl, h1, h2, h3, q⟩ := h
  obtain ⟨t, rfl⟩ := rx
  obtain ⟨t', rfl⟩ := ry
  refine PySem.P.mul_str ?_ (fun _ _ => ?_) (fun _ _ => ?_) ?_
  · rw [decide_eq_false (by omega), decide_eq_false (by omega)]; rfl
  · have e0 : (z.length : Int) * n ≤ 2 ^ 63 - 1 := by
      obtain ⟨k, rfl⟩ := Int.eq_ofNat_of_zero_le (show 0 ≤ n by omega)
      have h4 : z.length * k ≤ 2 ^ 63 - 1 := Nat.le_trans (by simpa using h3) (by decide)
      have : ((z.length * k : Nat) : Int) ≤ ((2 ^ 63 - 1 : Nat) : Int) := Int.ofNat_le.mpr h4
      simpa using this
    have e2 : (z.length : Int) ≤ (2 ^ 63 - 1) / n := (Int.le_ediv_iff_mul_le (by omega)).mpr e0
    omega
  · unfold Builtin.Str.tooLong
    exact decide_eq_false (by omega)
  · rw [if_neg (by omega)]
    unfold repS at q
    split
    · rename_i c
      rw [if_pos c] at q
      exact ⟨.str z, H, I, ⟨_, rfl⟩, q⟩
    · rename_i c
      rw [if_neg c] at q
      have l := repS_len (x := z) h1
      unfold repS at l
      rw [if_neg c] at l
      exact ⟨by rw [l]; exact h3, .str _, H, I.tok _, ⟨_, rfl⟩, q⟩
def sRepS : PV → PV → Option EV
  | .at (.str z), .at (.int n) => if 1 ≤ n ∧ n ≤ 4294967296 ∧ z.length * n.toNat ≤ sizeLine then some (.fz (.at (.str (repS z n)))) else none
  | _, _ => none
theorem os_repS : OpS K N rRepS sRepS := fun H R p q e x y Q sb d1 d2 hs k => by
  unfold sRepS at hs
  split at hs
  · split at hs
    · rename_i c
      cases hs
      cases repd_at d1; cases repd_at d2
      exact ⟨_, _, rfl, rfl, c.1, c.2.1, c.2.2, k _ H R (Gr.refl sb) (.at _)⟩
    · cases hs
  · cases hs
end
end B

set_option Elab.async false
set_option linter.all false
set_option maxRecDepth 100000
set_option maxHeartbeats 4000000
/-! B32: two defs that call one another: by fuel -/
namespace B
open PySem L2
section
variable {Pg : Program} {w : World} {K : PySem.W.Frag} {mg : Str → Option Value} {base : Heap} {N : Nm}
theorem gf_rec2 {x : Str} {st : Stmt} {Nn ps : List Str} {j : Nat} {P : List Nat} {g : Fn → MS} (D : GD K x x st (fun f => mg x = some (.ref f))) (S : FnScope Nn ps (defScope st))
    (hb : ∀ (kV doc pm : Value) (an : Option Addr) (cdv ct : Value) (us : List Value), us.length = ps.length → bindArgs (PySem.W.fnOf x x (defArgs st) (defBody st) (defScope st) .none kV doc pm an cdv ct) ⟨us, []⟩ = pure (ps.zip us))
    (body : ∀ (n : Nat) (F : Fn), GF Pg w K mg base N x (j + 1 + 2 * n) ps.length F → BodyAt Pg w K mg base N x st Nn P (j + 2 + 2 * n) (g F)) : ∀ n, GF Pg w K mg base N x (j + 1 + 2 * n) ps.length (recB ps.length Nn.length P g n)
  | 0 => gf_mk (k := j) D S hb fun _ _ _ _ _ _ _ _ _ _ => bss_never
  | n + 1 => by
    rw [show j + 1 + 2 * (n + 1) = j + 2 + 2 * n + 1 by omega]
    exact gf_mk (k := j + 2 + 2 * n) D S hb (body n _ (gf_rec2 D S hb body n))
end
section
variable {K : PySem.W.Frag} {N : Nm}
theorem cs_int : CallS K N (fun xs H Q => (∃ a n, xs = [.str a] ∧ PySem.intText? a = some n ∧ a.length ≤ 640 ∧ Q (.int n) H) ∨ ((∃ i, xs = [.int i] ∧ Q (.int i) H) ∨ ∃ k, xs = [.bl k] ∧ Q (.int (if k then 1 else 0)) H)) sInt := cs_intS.or cs_intB
theorem call_intB {X : Cx} : CallR X (.type "int") (fun xs H Q => (∃ a n, xs = [.str a] ∧ PySem.intText? a = some n ∧ a.length ≤ 640 ∧ Q (.int n) H) ∨ ((∃ i, xs = [.int i] ∧ Q (.int i) H) ∨ ∃ k, xs = [.bl k] ∧ Q (.int (if k then 1 else 0)) H)) := B.CallR.or_ call_int_str call_int1
end
section
variable {X : Cx} {N : Nm} {W : WX} {x : Str} {pos : Pos}
/-- a module's text -/
theorem be_globS {i : Str} (h : ∃ t, X.mg x = some (.str i t)) (hg : Gl X x := by rfl) (hd : (x == ("__debug__" : Str)) = false := by decide) : BE X N W (.Name x pos) (pur (.fz (.at (.str i)))) := by
  obtain ⟨t, h⟩ := h
  exact be_glob hg h ⟨t, rfl⟩ hd
end
end B

set_option Elab.async false
set_option linter.all false
set_option maxRecDepth 100000
set_option maxHeartbeats 4000000
/-! B33: texts by their code points -/
namespace B
open PySem L2
/-- the text of these code points, as a value -/
abbrev tx (l : List Nat) : PV := .at (.str (SX.S l))
section
variable {a b l : List Nat} {c : Nat}
theorem tx_inj : tx a = tx b ↔ a = b := ⟨fun h => by
  have : SX.S a = SX.S b := by injection h with h; injection h
  exact SX.S_inj this, fun h => by rw [h]⟩
theorem S_eq : (SX.S a = SX.S b) = (a = b) := propext ⟨SX.S_inj, fun h => by rw [h]⟩
theorem sEq_tx : sEq (tx a) (tx b) = some (.fz (.at (.bl (decide (a = b))))) := by
  simp [sEq, oor, sEqA, scal, V.bl, tx]
theorem sNe_tx : sNe (tx a) (tx b) = some (.fz (.at (.bl (!decide (a = b))))) := by
  simp [sNe, oor, sNeA, scal, tx]
theorem sIx_tx {i : Int} {c : Nat} (h : l.length ≤ sizeLine) (e : atI l i = some c) : sIx (tx l) (.at (.int i)) = some (.fz (tx [c])) := by
  show (if (SX.S l).length ≤ sizeLine then (atI (SX.S l).cps.toList i).map (fun c => EV.fz (.str ⟨#[c]⟩)) else none) = _
  rw [SX.S_len, if_pos h]
  show (atI l i).map _ = _
  rw [e]
  rfl
theorem atI_zero : atI (c :: l) 0 = some c := by
  unfold atI ixN
  simp
theorem atI_last : atI (l ++ [c]) (-1) = some c := by
  unfold atI ixN
  have : (-1 + ((l.length : Int) + 1)).toNat = l.length := by omega
  have h1 : (1 : Int) ≤ (l.length : Int) + 1 := by omega
  simp [h1, this]
theorem slV_tx {lo hi : Option Int} (h : l.length ≤ sizeLine) : slV (tx l) lo hi = some (.fz (tx ((l.drop (HT.sIx l.length 0 lo)).take (HT.sIx l.length l.length hi - HT.sIx l.length 0 lo)))) := by
  show (if (SX.S l).length ≤ sizeLine then some (EV.fz (.str (cutS (SX.S l) lo hi))) else none) = _
  rw [SX.S_len, if_pos h]
  unfold cutS
  rw [SX.S_len]
theorem slV_tail (h : l.length + 1 ≤ sizeLine) : slV (tx (c :: l)) (some 1) none = some (.fz (tx l)) := by
  rw [slV_tx (by simpa using h)]
  simp [HT.sIx]
theorem slV_head (h : l.length + 1 ≤ sizeLine) : slV (tx (c :: l)) none (some 1) = some (.fz (tx [c])) := by
  rw [slV_tx (by simpa using h)]
  simp [HT.sIx]
theorem slV_init (h : l.length + 1 ≤ sizeLine) : slV (tx (l ++ [c])) none (some (-1)) = some (.fz (tx l)) := by
  rw [slV_tx (by simpa using h)]
  have : (-1 + ((l.length : Int) + 1)).toNat = l.length := by omega
  simp [HT.sIx, this]
theorem slV_last (h : l.length + 1 ≤ sizeLine) : slV (tx (l ++ [c])) (some (-1)) none = some (.fz (tx [c])) := by
  rw [slV_tx (by simpa using h)]
  have : (-1 + ((l.length : Int) + 1)).toNat = l.length := by omega
  simp [HT.sIx, this]
theorem sCat_tx (h : a.length + b.length ≤ sizeLine) : sPlus (tx a) (tx b) = some (.fz (tx (a ++ b))) := by
  have e : sAdd (tx a) (tx b) = none := rfl
  unfold sPlus oor
  rw [e]
  have e2 : sCatS (tx a) (tx b) = some (.fz (tx (a ++ b))) := by
    show (if (SX.S a).length + (SX.S b).length ≤ sizeLine then some (EV.fz (.str (SX.S a ++ SX.S b))) else none) = _
    rw [if_pos (by rw [SX.S_len, SX.S_len]; exact h), SX.S_cat]
  simp only [e2]
theorem sLen_tx (h : l.length ≤ sizeLine) : sLen [tx l] = some (.fz (.at (.int l.length))) := by
  show (if (SX.S l).length ≤ sizeLine then some (EV.fz (.at (.int (SX.S l).length))) else none) = _
  rw [if_pos (by rw [SX.S_len]; exact h), SX.S_len]
theorem sInS_tx : sInS (tx [c]) (tx l) = some (.fz (.at (.bl (decide (c ∈ l))))) := by
  show some (EV.fz (.at (.bl (occP (SX.S [c]) (SX.S l))))) = _
  unfold occP
  rw [SX.in_one]
theorem sStr_num {n : Nat} (h : n < 2 ^ 1900) : sStrI [.at (.int n)] = some (.fz (tx (TL.numL n))) := by
  have hl : (n : Int).natAbs.log2 < 1920 := by
    rw [Int.natAbs_natCast]
    by_cases z : n = 0
    · rw [z]; decide
    · rw [Nat.log2_lt z]
      exact Nat.lt_of_lt_of_le h (Nat.pow_le_pow_right (by decide) (by decide))
  show (if (n : Int).natAbs.log2 < 1920 then some (EV.fz (.at (.str (Str.ofString (toString (n : Int)))))) else none) = _
  rw [if_pos hl]
  have := SX.num_S n
  show some (EV.fz (.at (.str (Str.ofString (toString (n : Int)))))) = _
  rw [this]
theorem sInt_num {n : Nat} (h : (TL.numL n).length ≤ 640) : sInt [tx (TL.numL n)] = some (.fz (.at (.int n))) := by
  have e : PySem.intText? (SX.S (TL.numL n)) = some (n : Int) := by
    have := PySem.intText_digits (x := SX.S (TL.numL n)) (TL.numL_digits n) (TL.numL_ne n) (by rw [SX.S_len]; omega)
    rw [this]
    show some ((PySem.NumText.digitsVal (TL.numL n) : Nat) : Int) = _
    rw [TL.numL_val]
  have e2 : sIntS [tx (TL.numL n)] = some (.fz (.at (.int n))) := by
    show (if (SX.S (TL.numL n)).length ≤ 640 then (PySem.intText? (SX.S (TL.numL n))).map fun n => EV.fz (.at (.int n)) else none) = _
    rw [if_pos (by rw [SX.S_len]; exact h), e]
    rfl
  unfold sInt
  simp only [e2]
theorem numL_len : ∀ (k n : Nat), n < 10 ^ (k + 1) → (TL.numL n).length ≤ k + 1
  | 0, n, h => by rw [TL.numL_lt (by simpa using h)]; simp
  | k + 1, n, h => by
    by_cases z : n < 10
    · rw [TL.numL_lt z]; simp
    · rw [TL.numL_step (by omega), List.length_append]
      have h2 : n / 10 < 10 ^ (k + 1) := by
        rw [Nat.div_lt_iff_lt_mul (by decide)]
        rw [Nat.pow_succ] at h
        exact h
      have := numL_len k (n / 10) h2
      simp
      exact this
theorem numL_head0 : ∀ n : Nat, 0 < n → ∃ c l, TL.numL n = c :: l ∧ c ≠ 48 := by
  intro n
  induction n using Nat.strongRecOn with
  | _ n ih =>
    intro hn
    by_cases z : n < 10
    · exact ⟨48 + n, [], TL.numL_lt z, by omega⟩
    · obtain ⟨c, l, e, hc⟩ := ih (n / 10) (by omega) (by omega)
      refine ⟨c, l ++ [48 + n % 10], ?_, hc⟩
      rw [TL.numL_step (by omega), e]
      rfl
theorem itemsS_tx : itemsS (tx l) = some (l.map fun c => tx [c]) := rfl
/-! ### lists of texts -/
theorem ats_tx : ∀ ws : List (List Nat), ats (ws.map tx) = some (ws.map fun w => V.str (SX.S w))
  | [] => rfl
  | w :: ws => by
    show (ats (ws.map tx)).map (V.str (SX.S w) :: ·) = _
    rw [ats_tx ws]
    rfl
theorem flat_tx : ∀ ws : List (List Nat), (ws.map fun w => V.str (SX.S w)).all flatV = true
  | [] => rfl
  | w :: ws => by
    rw [List.map_cons, List.all_cons, flat_tx ws]
    rfl
theorem inV_tx : ∀ ws : List (List Nat), inV (V.str (SX.S a)) (ws.map fun w => V.str (SX.S w)) = decide (a ∈ ws)
  | [] => by simp [inV]
  | w :: ws => by
    have ih := inV_tx ws
    unfold inV at ih ⊢
    rw [List.map_cons, List.any_cons, ih]
    have : eqV (V.str (SX.S w)) (V.str (SX.S a)) = decide (a = w) := by
      show (SX.S w == SX.S a) = _
      rw [SX.S_beq_eq, Bool.eq_iff_iff]
      simp
      exact eq_comm
    rw [this]
    simp
theorem sIn_tx0 {neg : Bool} {q : PV} {ws : List (List Nat)} (h : itemsF q = some (ws.map fun w => V.str (SX.S w))) : sIn neg (tx a) q = some (.fz (.at (.bl (if neg then !decide (a ∈ ws) else decide (a ∈ ws))))) := by
  have f1 : flatV (V.str (SX.S a)) = true := rfl
  have f2 := flat_tx ws
  have f3 := inV_tx (a := a) ws
  simp only [sIn, h, f1, f2, f3, and_self, if_true]
theorem sIn_tx {neg : Bool} {ws : List (List Nat)} : sIn neg (tx a) (.lst (ws.map tx)) = some (.fz (.at (.bl (if neg then !decide (a ∈ ws) else decide (a ∈ ws))))) := sIn_tx0 (ats_tx ws)
theorem sIn_txT {neg : Bool} {ws : List (List Nat)} : sIn neg (tx a) (.tup (ws.map tx)) = some (.fz (.at (.bl (if neg then !decide (a ∈ ws) else decide (a ∈ ws))))) := sIn_tx0 (ats_tx ws)
theorem txts_tx : ∀ ws : List (List Nat), txts (ws.map tx) = some (ws.map SX.S)
  | [] => rfl
  | w :: ws => by
    show (txts (ws.map tx)).map (SX.S w :: ·) = _
    rw [txts_tx ws]
    rfl
theorem sJoin_tx {ws : List (List Nat)} (h : (ws.map (·.length)).sum + ws.length * a.length ≤ 16777216) : sJoin (tx a) (.lst (ws.map tx)) = some (.fz (tx (TL.joinL a ws))) := by
  have c : ((ws.map SX.S).map (·.length)).sum + (ws.map SX.S).length * (SX.S a).length ≤ 16777216 := by rw [SX.lens, List.length_map, SX.S_len]; exact h
  simp only [sJoin, txts_tx, c, if_true, SX.join_S]
theorem sSplit_tx {ws : List (List Nat)} (hn : ws ≠ []) (hf : ∀ w ∈ ws, c ∉ w) (hc : c < 256) (h : (TL.joinL [c] ws).length + 2 ≤ sizeLine) : sSplit (tx (TL.joinL [c] ws)) (tx [c]) = some (.nw (.ow (ws.map tx))) := by
  show (if ((SX.S [c]).length == 0) = false ∧ (SX.S (TL.joinL [c] ws)).length + 2 ≤ sizeLine then some (EV.nw (.ow ((Txt.split (SX.S (TL.joinL [c] ws)) (SX.S [c])).map fun z => PV.at (.str z)))) else none) = _
  rw [if_pos ⟨by rw [SX.S_len]; rfl, by rw [SX.S_len]; exact h⟩, SX.split_S (by simp) (by simp [hc]), TL.spl_join hn hf, List.map_map]
  rfl
end
end B

set_option Elab.async false
set_option linter.all false
set_option maxRecDepth 100000
set_option maxHeartbeats 4000000
/-! B34: bit_length, sorted of ints, list(range(a, b)) -/
namespace B
open PySem L2
section
variable {X : Cx} {N : Nm} {W : WX} {o a b : Expr} {f g : M EV} {apos pos p p0 : Pos}
def sBits (q : PV) : Option EV := match q with
  | .at (.int i) => some (.fz (.at (.int (Builtin.Int.intBits i : Nat))))
  | _ => none
theorem be_bits (ho : BE X N W o f) (hbase : attributeBase o "bit_length" X.env (eval o X.env) = eval o X.env := by rfl) (hline : (apos.endLine == pos.line) = true := by rfl) :
    BE X N W (.Call (.Attribute o "bit_length" apos) [] [] pos) (bnd f fun x => op1 sBits x) :=
  pe_weak (pe_bits ho hbase hline) fun σ H Q ⟨ρ, R, r, h⟩ => ⟨ρ, R, r, Pst.bnd' .refl h fun x ρ1 v H1 R1 s1 _ r1 e1 h1 => deref_use h1 r1 e1 fun q d h2 => by
    unfold sBits at h2
    split at h2
    · cases repd_at d
      exact ⟨_, rfl, Pst.give h2 s1 r1 (Gr.refl r1.sub) (.at _)⟩
    · exact h2.elim⟩

/-! ### sorted ints -/
def insI (n : Int) : List Int → List Int
  | [] => [n]
  | m :: r => if n ≤ m then n :: m :: r else m :: insI n r
def srtI : List Int → List Int
  | [] => []
  | n :: r => insI n (srtI r)
theorem insI_perm (n : Int) : ∀ l, (insI n l).Perm (n :: l)
  | [] => .refl _
  | m :: r => by
    unfold insI
    split
    · exact .refl _
    · exact ((insI_perm n r).cons m).trans (.swap n m r)
theorem srtI_perm : ∀ l, (srtI l).Perm l
  | [] => .refl _
  | n :: r => (insI_perm n _).trans ((srtI_perm r).cons n)
theorem insI_up (n : Int) : ∀ l : List Int, l.Pairwise (· ≤ ·) → (insI n l).Pairwise (· ≤ ·)
  | [], _ => by simp [insI]
  | m :: r, h => by
    unfold insI
    split
    · rename_i c
      refine List.Pairwise.cons (fun x hx => ?_) h
      rcases List.mem_cons.mp hx with z | z
      · omega
      · have := List.rel_of_pairwise_cons h z
        omega
    · rename_i c
      refine List.Pairwise.cons (fun x hx => ?_) (insI_up n r h.of_cons)
      rcases List.mem_cons.mp ((insI_perm n r).mem_iff.mp hx) with z | z
      · omega
      · exact List.rel_of_pairwise_cons h z
theorem srtI_up : ∀ l : List Int, (srtI l).Pairwise (· ≤ ·)
  | [] => .nil
  | n :: r => insI_up n _ (srtI_up r)
/-- one row in order with the same numbers -/
theorem up_one : ∀ {l m : List Int}, l.Perm m → l.Pairwise (· ≤ ·) → m.Pairwise (· ≤ ·) → l = m
  | [], m, p, _, _ => by rw [List.Perm.eq_nil (p.symm)]
  | n :: r, [], p, _, _ => by have := p.length_eq; simp at this
  | n :: r, k :: t, p, h, h' => by
    have e : n = k := by
      have a := p.mem_iff.mp (List.mem_cons_self (a := n) (l := r))
      have b := p.mem_iff.mpr (List.mem_cons_self (a := k) (l := t))
      rcases List.mem_cons.mp a with z | z
      · exact z
      · rcases List.mem_cons.mp b with y | y
        · exact y.symm
        · have := List.rel_of_pairwise_cons h' z
          have := List.rel_of_pairwise_cons h y
          omega
    subst e
    rw [up_one ((List.perm_cons n).mp p) h.of_cons h'.of_cons]
def sSorted : List PV → Option EV
  | [q] => (liI q).map fun ns => .nw (.ow ((srtI ns).map PV.int))
  | _ => none
theorem cs_sorted {K : PySem.W.Frag} : CallS K N (rSortedI K) sSorted := fun H R ps e vs Q sb d hs k => by
  unfold sSorted at hs
  split at hs
  · rename_i q
    obtain ⟨v, rfl, d1⟩ := one_d d
    cases h : liI q with
    | none => rw [h] at hs; cases hs
    | some ns =>
      rw [h] at hs; cases hs
      obtain ⟨a, rfl, hq⟩ := liI_ok sb d1 h
      refine ⟨a, _, rfl, hq, fun ns' l pm up nl => ?_⟩
      have e : ns' = srtI ns := up_one (pm.trans (srtI_perm ns).symm) up (srtI_up ns)
      subst e
      exact k _ _ _ (Gr.new_ sb nl) ⟨rfl, ⟨l, _, rfl, upd_same, Reps.ints _, rnone_of sb nl⟩, l, rfl, nl⟩
  · cases hs

/-! ### a power of a wide base -/
def CPowX (i j : Int) : Prop := 0 ≤ j ∧ (Builtin.Int.intBits i : Int) * j ≤ 2 ^ 27
theorem op_powX : OpR X (binaryOp .Pow) (rI CPowX fun i j => .int (i ^ j.toNat)) := opI fun _ _ _ _ _ _ _ hc q => PyProof.Rows.pow_int hc.1 hc.2 q
def powX (i j : Int) : Bool := decide (0 ≤ j) && decide ((i.natAbs.log2 + 1) * j.toNat ≤ 134217728)
def sPowX : PV → PV → Option EV := sIc powX fun i j => .int (i ^ j.toNat)
theorem os_powX {K : PySem.W.Frag} : OpS K N (rI CPowX fun i j => .int (i ^ j.toNat)) sPowX := ops_I fun i j h => by
  unfold powX at h
  rw [Bool.and_eq_true] at h
  have h1 := of_decide_eq_true h.1
  have h2 := of_decide_eq_true h.2
  refine ⟨h1, ?_⟩
  have b : Builtin.Int.intBits i ≤ i.natAbs.log2 + 1 := by
    unfold Builtin.Int.intBits
    split <;> omega
  obtain ⟨k, rfl⟩ := Int.eq_ofNat_of_zero_le h1
  rw [Int.toNat_natCast] at h2
  have e : (2 : Int) ^ 27 = 134217728 := by decide
  rw [e]
  have := Nat.mul_le_mul_right k b
  have f := Nat.le_trans this h2
  rw [← Int.natCast_mul]
  exact Int.ofNat_le.mpr f
theorem powX_bd {n : Nat} {i : Int} {k : Nat} (h : Bd n i) (l : (n + 1) * k ≤ 134217728) : powX i k = true := by
  unfold powX
  have h1 : i.natAbs.log2 ≤ n := by
    by_cases z : i.natAbs = 0
    · rw [z]; exact Nat.zero_le _
    · exact Nat.le_of_lt ((Nat.log2_lt z).mpr h)
  have h2 := Nat.mul_le_mul_right k (Nat.succ_le_succ h1)
  rw [Bool.and_eq_true]
  exact ⟨decide_eq_true (by omega), decide_eq_true (by rw [Int.toNat_natCast]; exact Nat.le_trans h2 l)⟩

/-! ### t + u -/
def sCatT (q q' : PV) : Option EV := match q, q' with
  | .tup xs, .tup ys => if xs.length + ys.length ≤ sizeLine then some (.fz (.tup (xs ++ ys))) else none
  | _, _ => none
theorem os_catT {K : PySem.W.Frag} : OpS K N (rCatA K) sCatT := fun H R p q e x y Q sb d1 d2 hs k => by
  unfold sCatT at hs
  split at hs
  · rename_i xs ys
    split at hs
    · rename_i hl
      cases hs
      cases (show Rep K N R (.tup xs) x from d1) with
      | @tup _ vs a h1 h2 =>
        cases (show Rep K N R (.tup ys) y from d2) with
        | @tup _ us b h3 h4 =>
          have l1 := h2.length
          have l2 := h4.length
          refine ⟨a, b, vs, us, rfl, rfl, sb.tup h1, sb.tup h3, by omega, fun e => ?_, fun e1 e2 => ?_, fun e1 e2 p np => ?_⟩
          · subst e
            have : xs = [] := List.eq_nil_of_length_eq_zero (by simpa using l1)
            subst this
            exact k _ H R (Gr.refl sb) (.tup h3 h4)
          · subst e2
            have : ys = [] := List.eq_nil_of_length_eq_zero (by simpa using l2)
            subst this
            rw [List.append_nil] at k
            exact k _ H R (Gr.refl sb) (.tup h1 h2)
          · have g := Gr.add (o := .tup (vs ++ us)) sb np
            exact k _ _ _ g (.tup (.inl (.inl upd_same)) ((h2.mono g.sub).append (h4.mono g.sub)))
    · cases hs
  · cases hs
def sPlusT : PV → PV → Option EV := oor sPlus sCatT
theorem op_plusT : OpR X (binaryOp .Add) (fun x y H Q => (rI0 (fun i j => .int (i + j)) x y H Q ∨ ((∃ i j, x = .str i ∧ y = .str j ∧ i.length + j.length ≤ sizeLine ∧ Q (.str (i ++ j)) H) ∨ rCat x y H Q)) ∨ rCatA X.K x y H Q) := (op_add.or (op_add_str.or op_cat)).or op_catA
theorem os_plusT {K : PySem.W.Frag} : OpS K N (fun x y H Q => (rI0 (fun i j => .int (i + j)) x y H Q ∨ ((∃ i j, x = .str i ∧ y = .str j ∧ i.length + j.length ≤ sizeLine ∧ Q (.str (i ++ j)) H) ∨ rCat x y H Q)) ∨ rCatA K x y H Q) sPlusT := os_plus.or os_catT

/-! ### str of an int or a text -/
def sStrS : List PV → Option EV
  | [.at (.str x)] => some (.fz (.at (.str x)))
  | _ => none
theorem cs_strS {K : PySem.W.Frag} : CallS K N (fun xs H Q => ∃ a, xs = [.str a] ∧ Q (.str a) H) sStrS := fun H R ps e vs Q sb d hs k => by
  unfold sStrS at hs
  split at hs
  · rename_i x
    obtain ⟨v, rfl, d1⟩ := one_d d
    cases hs
    cases repd_at d1
    exact ⟨x, rfl, k _ H R (Gr.refl sb) (.at _)⟩
  · cases hs
def sStrX : List PV → Option EV := fun ps => match sStrI ps with
  | some e => some e
  | none => sStrS ps
theorem call_strX {X : Cx} : CallR X (.type "str") (fun xs H Q => (∃ i, xs = [.int i] ∧ i.natAbs.log2 < 1920 ∧ Q (.str (toString i)) H) ∨ ∃ a, xs = [.str a] ∧ Q (.str a) H) := fun pins s σ H xs us Q I r h => h.elim (call_str_int pins s σ H xs us Q I r) (SkE.call_str_str pins s σ H xs us Q I r)
theorem cs_strX {K : PySem.W.Frag} : CallS K N (fun xs H Q => (∃ i, xs = [.int i] ∧ i.natAbs.log2 < 1920 ∧ Q (.str (toString i)) H) ∨ ∃ a, xs = [.str a] ∧ Q (.str a) H) sStrX := cs_strI.or cs_strS

/-! ### list(range(a, b)) -/
def rgI (i j : Int) : List Int := (List.range (j - i).toNat).map fun (n : Nat) => i + (n : Int)
theorem rgV_rgI (i j : Int) : rgV i j = (rgI i j).map V.int := by
  unfold rgV rgI
  rw [List.map_map]
  rfl
instance instRgOk {i j : Int} : Decidable (RgOk i j) := by unfold RgOk; infer_instance
def sRgL (q q' : PV) : Option EV := match q, q' with
  | .at (.int i), .at (.int j) => if RgOk i j then some (.nw (.ow ((rgI i j).map PV.int))) else none
  | _, _ => none
theorem os_rgL {K : PySem.W.Frag} : OpS K N (fun x y H Q => ∃ i j, x = .int i ∧ y = .int j ∧ (RgOk i j ∧ ∀ q, H q = none → Q (.ref q) (upd H q (.lst (rgV i j))))) sRgL := fun H R p q e x y Q sb d1 d2 hs k => by
  unfold sRgL at hs
  split at hs
  · rename_i i j
    split at hs
    · rename_i c
      cases hs
      cases repd_at d1
      cases repd_at d2
      refine ⟨i, j, rfl, rfl, c, fun l nl => ?_⟩
      rw [rgV_rgI]
      exact k _ _ _ (Gr.new_ sb nl) ⟨rfl, ⟨l, _, rfl, upd_same, Reps.ints _, rnone_of sb nl⟩, l, rfl, nl⟩
    · cases hs
  · cases hs
end
section
variable {X : Cx} {N : Nm} {W : WX} {a b : Expr} {f g : M EV} {pos p p0 pos0 : Pos}
theorem be_listRg (hc : X.calm = true) (hgl : Gl X "list") (hml : X.mg "list" = none) (hg : Gl X "range") (hm : X.mg "range" = none) (ha : BE X N W a f) (hb : BE X N W b g)
    (na : starEach [a, b] X.env = (false, eval a X.env) :: starEach [b] X.env := by rfl) (nb : starEach [b] X.env = (false, eval b X.env) :: starEach [] X.env := by rfl) (hp : (backTo pos0 (starEach [b] X.env)).any (·.1) = false := by rfl)
    (nc : starEach [.Call (.Name "range" p0) [a, b] [] pos0] X.env = (false, eval (.Call (.Name "range" p0) [a, b] [] pos0) X.env) :: starEach [] X.env := by rfl) :
    BE X N W (.Call (.Name "list" p) [.Call (.Name "range" p0) [a, b] [] pos0] [] pos) (bnd f fun x => bnd g fun y => op2 sRgL x y) :=
  pe_weak (pe_listRg hc hgl hml (prg_2 hg hm ha hb na nb hp) nc) fun σ H Q ⟨ρ, R, r, h⟩ => ⟨ρ, R, r, Pst.bnd h fun x ρ1 v H1 R1 s1 r1 e1 h1 => ⟨ρ1, R1, r1, Pst.bnd (h1.laterE s1) fun y ρ2 u H2 R2 s2 r2 e2 h2 =>
    op2_ok os_rgL h2 s2 r2 (e1.mono s2) e2⟩⟩
end
end B

set_option Elab.async false
set_option linter.all false
set_option maxRecDepth 100000
set_option maxHeartbeats 4000000
/-! B35: sorted(set(xs)), xs a list of ints -/
namespace B
open PySem L2 PySem.Spec PyProof.Rows
section
variable {Pg : Program} {wo : World} {Ar : Around} {Er : Value → Shared → Prop} {z : Shared}
theorem set_of_list {li : Addr} {xs : Array Value} (ks : List Int) {Q : Value → Shared → Prop} (yh : Ar.handled = none) (yl : z.heap.IsList li xs) (yit : IntsAre xs.toList ks) (yb : ks.length + 1 < scanBound)
    (go : ∀ (h' : Heap) (tt cc : Nat), SetR wo h' z.heap.objs.size (fun j => decide (j ∈ ks)) cc → cc ≤ ks.length → (∀ ad oo, z.heap.get? ad = some oo → h'.get? ad = some oo) → Q (.ref z.heap.objs.size) { z with heap := h', toks := tt }) :
    wpAny (model Pg wo) Ar (call (.type "set") [.ref li]) Q Er z := by
  have ysz : xs.size = ks.length := by
    have q := IntsAre.length yit
    rw [Array.length_toList] at q
    exact q
  obtain ⟨cc, tl, ym⟩ := F.called_set.mro
  have yd := F.called_set.made
  have yu := F.called_set.sub
  refine wpAny_call (codeAny_of_tree ?_)
  show wpAny _ _ (callAny (.type "set") _) _ _ _
  refine wpAny_pure ⟨Code.quiet_builtin _ (by decide +kernel), codeAny_builtin F.entry_type_call ?_⟩
  rw [Around.under_plain (weight_type_call_type "set" [.ref li] []) rfl]
  have yh1 := F.called_set.notType
  have yh2 := F.called_set.canCreate
  have yct := F.typeCall_set_1 (.ref li)
  repeat (any_goals (first | assumption | wp_step))
  refine codeAny_mono (code_set_led1 (.ref li) (E := Er) (Q₁ := fun ob s₁ => ob = .ref z.heap.objs.size ∧ s₁ = { z with heap := z.heap.push { cls := .type "set", dict := none, data := .set #[] 0 (.fresh 0 0 (!wo.params.followText "set-order")) } }) ⟨rfl, rfl⟩) fun rs s₁ yr => ?_
  cases rs with
  | error ee => exact yr
  | ok fw =>
    cases fw with
    | ret ob =>
      obtain ⟨rfl, rfl⟩ := yr
      have yS : (z.heap.push { cls := .type "set", dict := none, data := .set #[] 0 (.fresh 0 0 (!wo.params.followText "set-order")) }).get? z.heap.objs.size = some { cls := .type "set", dict := none, data := .set #[] 0 (.fresh 0 0 (!wo.params.followText "set-order")) } := Heap.get?_push_size _ rfl
      have yT : Shared.TypeIs { z with heap := z.heap.push { cls := .type "set", dict := none, data := .set #[] 0 (.fresh 0 0 (!wo.params.followText "set-order")) } } (.ref z.heap.objs.size) "set" := ⟨_, yS, rfl⟩
      have yli := F.called_set.init.lookup
      have ybi := F.called_set.init.bind (.ref z.heap.objs.size)
      repeat (any_goals (first | assumption | wp_step))
      refine codeAny_mono (codeAny_call_builtin (R := wants (fun rs s₂ => rs = .none ∧ ∃ h' tt cc, s₂ = { z with heap := h', toks := tt } ∧ SetR wo h' z.heap.objs.size (fun j => decide (j ∈ ks)) cc ∧ cc ≤ ks.length ∧
          (∀ ad oo, z.heap.get? ad = some oo → h'.get? ad = some oo)) Er) F.called_set.init.plain F.entry_set_init (check_set_init_1 yT ?_)) fun r₂ s₂ hr₂ => ?_
      · obtain ⟨yo, yol, ycl, yn, ydl⟩ := yl
        obtain ⟨ocls, odict, odata, oslots⟩ := yo
        simp only at ycl ydl
        subst ycl; subst ydl
        have hol' : (z.heap.push { cls := .type "set", dict := none, data := .set #[] 0 (.fresh 0 0 (!wo.params.followText "set-order")) }).get? li = some { cls := .type "list", dict := odict, data := .seq xs yn, slots := oslots } := Heap.get?_push_of_some _ yol
        have yls := F.sub_list_set
        have ylf := F.sub_list_frozenset
        have yne : (Value.type "list" == Value.type "dict") = false := by decide
        have yl1 : (z.heap.push { cls := .type "set", dict := none, data := .set #[] 0 (.fresh 0 0 (!wo.params.followText "set-order")) }).IsList li xs := ⟨_, hol', rfl, yn, rfl⟩
        unfold Builtin.«set.__init__» noKeywords Builtin.Frozenset.updateFrom
        generalize yPI : pyIter = Py
        wp_walk
        subst yPI
        refine wpAny_pyIter_list yl1 ?_
        refine wpAny_bind (wpAny_runValue ?_)
        have ylS : li < z.heap.objs.size := Heap.lt_size yol
        have yh3 : Ar.in1.in1.in1.handled = none := by simp [yh]
        have yz1 : (z.heap.push { cls := .type "set", dict := none, data := .set #[] 0 (.fresh 0 0 (!wo.params.followText "set-order")) }).objs.size = z.heap.objs.size + 1 := Heap.size_push ..
        have ynI : li ≠ (z.heap.push { cls := .type "set", dict := none, data := .set #[] 0 (.fresh 0 0 (!wo.params.followText "set-order")) }).objs.size := by
          rw [Heap.size_push]; exact Nat.ne_of_lt (Nat.lt_succ_of_lt ylS)
        have ySf : z.heap.objs.size ∉ [(z.heap.push { cls := .type "set", dict := none, data := .set #[] 0 (.fresh 0 0 (!wo.params.followText "set-order")) }).objs.size, li] := by
          rw [Heap.size_push]; simp only [List.mem_cons, List.mem_singleton, List.not_mem_nil, or_false, not_or]
          exact ⟨Nat.ne_of_lt (Nat.lt_succ_self _), Nat.ne_of_gt ylS⟩
        have yval : ∀ (ix : Nat) (vv : Value), xs[ix]? = some vv → ∃ kk ti, ks[ix]? = some kk ∧ vv = .int kk ti := fun ix vv yv => by
          have yi : ix < ks.length := by rw [← ysz]; exact (Array.getElem?_eq_some_iff.mp yv).1
          obtain ⟨ti, ee⟩ := PyProof.Rows.IntsAre.int_at yit ix vv (by rw [Array.getElem?_toList]; exact yv)
          refine ⟨ks[ix], ti, List.getElem?_eq_getElem yi, ?_⟩
          rw [ee, List.getD_eq_getElem?_getD, List.getElem?_eq_getElem yi] <;> rfl
        refine set_update_ints ((Walks.list yh3 _ li ynI xs).toS) z.heap.objs.size
          ySf ks ysz yb yval (xs.size - 0) 0 _ (by omega) (Nat.zero_le _)
          ⟨⟨_, Heap.get?_push_size _ rfl, rfl, rfl⟩, (yl1.push _)⟩ ?hS0 ?hR
        case hS0 =>
          have yget : ((z.heap.push { cls := .type "set", dict := none, data := .set #[] 0 (.fresh 0 0 (!wo.params.followText "set-order")) }).push { cls := .type "list_iterator", data := .fields #[.ref li, .int 0 0] }).get? z.heap.objs.size
              = some { cls := .type "set", dict := none, data := .set #[] 0 (.fresh 0 0 (!wo.params.followText "set-order")) } := Heap.get?_push_of_some _ yS
          exact ⟨0, Nat.le_refl 0, setR_new_at yget⟩
        case hR =>
          intro s' c' yhm hc' hS'
          obtain ⟨h', g2, d', tk', os'⟩ := s'
          have y1 : g2 = z.gens := yhm.gens
          have y2 : d' = z.drawn := yhm.drawn
          have y3 : os' = z.os := yhm.os
          subst y1; subst y2; subst y3
          show wpAny _ _ _ _ _ _
          refine wpAny_pure ?_
          show wpAny _ _ (ret Value.none) _ _ _
          rw [ysz] at hc'
          refine wpAny_pure ⟨rfl, h', tk', c', rfl, hS', hc', fun ad oo ee => ?_⟩
          have yb0 : ad < z.heap.objs.size := Heap.lt_size ee
          have yb1 : ad ≠ z.heap.objs.size := Nat.ne_of_lt yb0
          have yb2 : ad ≠ (z.heap.push { cls := .type "set", dict := none, data := .set #[] 0 (.fresh 0 0 (!wo.params.followText "set-order")) }).objs.size := by
            rw [Heap.size_push]; exact Nat.ne_of_lt (Nat.lt_succ_of_lt yb0)
          exact yhm.heap ad oo (by simp only [List.mem_cons, List.mem_singleton, List.not_mem_nil, or_false, not_or]; exact ⟨yb1, yb2⟩) (Heap.get?_push_of_some _ (Heap.get?_push_of_some _ ee))
      · cases r₂ with
        | error ee => exact hr₂
        | ok fl₂ =>
          cases fl₂ with
          | ret rs =>
            obtain ⟨rfl, h', tt, c', rfl, hS', hc', hk'⟩ := hr₂
            repeat (any_goals (first | assumption | wp_step))
            exact go _ _ _ hS' hc' hk'
          | _ => exact hr₂.elim
    | _ => exact yr.elim
end
end B

set_option Elab.async false
set_option linter.all false
set_option maxRecDepth 100000
set_option maxHeartbeats 4000000
/-! B36: sorted(set(xs)), xs a list of ints -/
namespace B
open PySem L2 PySem.Spec PyProof.Rows
section
variable {Pg : Program} {wo : World} {Ar : Around} {Er : Value → Shared → Prop} {z : Shared}
/-- sorted of a set of ints, of any size -/
theorem sorted_of_set {ad : Addr} {S : Int → Bool} {n : Nat} {Q : Value → Shared → Prop} (Rs : SetR wo z.heap ad S n) (yh : Ar.handled = none)
    (yq : ∀ (z' : Shared) (p : Addr) (out : List Value) (c : Nat) (ks : List Int), (∀ b o, z.heap.get? b = some o → z'.heap.get? b = some o) → z'.gens = z.gens → z'.os = z.os → z.heap.objs.size ≤ p → ks.length ≤ 4096 →
      z'.heap.get? p = some (seqObj "list" out.toArray c) → IntsAre out ks → ks.Pairwise (· < ·) → (∀ k, k ∈ ks ↔ S k = true) → Q (.ref p) z') :
    wpAny (model Pg wo) Ar (call (.builtin "sorted") [.ref ad]) Q Er z := by
  obtain ⟨oo, es, ep, t, yo, yx, yd, yg, ynd, ym, yb, yf, yn, yr, yl⟩ := Rs
  refine Calls.call_function_entry kind_sorted plain_sorted entry_sorted (args_sorted1 _) ?_; unfold Builtin.«sorted»
  refine wpAny_bind (m := checkCount "sorted" 1 1 _) (wpAny_pure ?_); skip
  refine wpAny_bind (collect_set (A := Ar.in1) yh ⟨oo, yo, yx.1, yd⟩ yf yb yr yl fun z1 vs k1 hz g1 o1 pm => ?_)
  have yv : vs.length = n := by rw [pm.length_eq, List.length_map, Array.length_toList]; exact yn
  have yi : IntsAre vs (vs.map Builtin.Re.reRawOf) := ints_of vs fun v hv => by
    obtain ⟨e, he, q⟩ := List.mem_map.mp (pm.mem_iff.mp hv)
    obtain ⟨k, tk, h1, _⟩ := yg e he
    exact ⟨k, tk, by rw [← q]; exact h1⟩
  have pk : (vs.map Builtin.Re.reRawOf).Perm (es.toList.map keyOf) := by
    have q := pm.map Builtin.Re.reRawOf
    rw [List.map_map] at q; exact q
  have y4 : vs.length ≤ 4096 := by rw [yv, ← yn]; unfold scanBound at yb; omega
  have yz : vs.length ≤ sizeLine := by rw [sizeLine_eq]; omega
  refine wpAny_bind (wpAny_newList ?_ yz)
  have yL : (z1.heap.push (seqObj "list" vs.toArray 0)).get? z1.heap.objs.size = some (seqObj "list" vs.toArray 0) := Heap.get?_push_size _ rfl
  refine wpAny_bind (wpAny_holding (wpAny_call_entry slot_list_sort ⟨_, yL, rfl⟩ entry_list_sort (SrtO.list_sort_ord SrtO.swo_int yL yz (fun h2 => SrtO.ints_sortable yi h2) fun out a1 a2 => ⟨_, rfl, ?_⟩) (args_list_sort _)))
  obtain ⟨b1, b2, b3⟩ := SrtO.ints_out yi a1 a2
  obtain ⟨c, yc⟩ := sortedHeap_at (vs := vs) (out := out.toArray) yL
  have pn : (out.map SrtO.iv).Perm (es.toList.map keyOf) := b2.trans pk
  refine wpAny_pure ⟨_, rfl, yq _ z1.heap.objs.size out c (out.map SrtO.iv) (fun b u e => ?_) g1 o1 hz ?_ yc b1 (lt_of_le_nodup _ b3 (pn.nodup_iff.mpr ynd)) (fun k => by rw [pn.mem_iff, ← ym k])⟩
  · have q := k1 b u e
    have hlt := Heap.lt_size q
    show (sortedHeap (z1.heap.push (seqObj "list" vs.toArray 0)) z1.heap.objs.size vs out.toArray).get? b = some u
    rw [sortedHeap_old (Nat.ne_of_lt hlt) (by rw [size_push']; exact Nat.lt_succ_of_lt hlt)]
    exact Heap.get?_push_of_some _ q
  · rw [b2.length_eq, List.length_map]; exact y4
end
section
variable {X : Cx}
def rSetL (K : PySem.W.Frag) (wo : World) : List V → Hp → VK → Prop := fun xs H Q => ∃ (l : Addr) (ks : List Int), xs = [V.ref l] ∧ SqL K H l (ks.map V.int) ∧ ks.length ≤ 1000 ∧
  ∀ (a : Addr) (c : Nat), H a = none → Q (.ref a) (upd H a (SetO wo a (fun j => decide (j ∈ ks)) c))
theorem cr_setL (hc : X.calm = true) : CallR X (.type "set") (rSetL X.K X.w) := by
  intro pins z σ H xs us Q I r h
  obtain ⟨l, ks, rfl, hl, hf, q⟩ := h
  rw [Vals.ref1 r]
  obtain ⟨its, rv, pl, hz⟩ := I.list hl
  have hn : H z.heap.objs.size = none := I.hok.fresh (Nat.le_refl _)
  refine set_of_list (Pg := X.prog) (wo := X.w) ks (I.ok.hd hc) pl.isList (by simpa using ints_of_vals rv) (by unfold scanBound; omega) fun go tk c R _ k => ?_
  exact ⟨.ref z.heap.objs.size, upd H z.heap.objs.size (SetO X.w z.heap.objs.size (fun j => decide (j ∈ ks)) c), I.laid (t' := tk) k (Nat.le_refl _) (setO_new R), rfl, q _ c hn⟩
def rSortSet (wo : World) : List V → Hp → VK → Prop := fun vs H Q => ∃ (a : Addr) (S : Int → Bool) (n : Nat), vs = [V.ref a] ∧ H a = some (SetO wo a S n) ∧
  ∀ (ks : List Int) (p : Addr), ks.Pairwise (· < ·) → (∀ k : Int, k ∈ ks ↔ S k = true) → H p = none → Q (.ref p) (upd H p (.lst (ks.map V.int)))
theorem cr_sortSet (hc : X.calm = true) : CallR X (.builtin "sorted") (rSortSet X.w) := by
  intro pins z σ H vs us Q I r h
  obtain ⟨a, S, n, rfl, ha, q⟩ := h
  have R := setO_get I ha
  rw [Vals.ref1 r]
  refine sorted_of_set R (I.ok.hd hc) fun s' p out c ks k g o hp h4 hg hi hs hm => ?_
  have hlen : (ks.map V.int).length ≤ sizeLine := by rw [List.length_map, sizeLine_eq]; omega
  have hn : H p = none := I.hok.fresh hp
  have J : Inv X pins σ (upd H p (.lst (ks.map V.int))) { z with heap := s'.heap, gens := s'.gens, drawn := s'.drawn, toks := s'.toks } :=
    I.call (ch := []) (Un.laid k hp hn) (I.hok.laid k hp ⟨hlen, out, c, vals_of_ints hi, hg⟩) (by rw [g]; exact I.bare) (fun _ z => nomatch z)
  have e : s' = { z with heap := s'.heap, gens := s'.gens, drawn := s'.drawn, toks := s'.toks } := by
    cases s'
    cases z
    cases o
    rfl
  rw [e]
  exact ⟨.ref p, _, J, rfl, q ks p hs hm hn⟩
end
/-! ### by values -/
def insU (n : Int) : List Int → List Int
  | [] => [n]
  | m :: r => if n < m then n :: m :: r else if n = m then m :: r else m :: insU n r
def usrt : List Int → List Int
  | [] => []
  | n :: r => insU n (usrt r)
theorem insU_mem (n k : Int) : ∀ l, k ∈ insU n l ↔ k = n ∨ k ∈ l
  | [] => by simp [insU]
  | m :: r => by
    unfold insU
    split
    · simp
    · split
      · rename_i e; subst e; simp
      · simp only [List.mem_cons, insU_mem n k r]
        constructor
        · rintro (z | z | z)
          · exact .inr (.inl z)
          · exact .inl z
          · exact .inr (.inr z)
        · rintro (z | z | z)
          · exact .inr (.inl z)
          · exact .inl z
          · exact .inr (.inr z)
theorem usrt_mem (k : Int) : ∀ l, k ∈ usrt l ↔ k ∈ l
  | [] => by simp [usrt]
  | n :: r => by
    unfold usrt
    rw [insU_mem, usrt_mem k r, List.mem_cons]
theorem insU_up (n : Int) : ∀ l : List Int, l.Pairwise (· < ·) → (insU n l).Pairwise (· < ·)
  | [], _ => by simp [insU]
  | m :: r, h => by
    unfold insU
    split
    · rename_i c
      refine List.Pairwise.cons (fun x hx => ?_) h
      rcases List.mem_cons.mp hx with z | z
      · omega
      · have := List.rel_of_pairwise_cons h z
        omega
    · split
      · exact h
      · rename_i c d
        refine List.Pairwise.cons (fun x hx => ?_) (insU_up n r h.of_cons)
        rcases (insU_mem n x r).mp hx with z | z
        · omega
        · exact List.rel_of_pairwise_cons h z
theorem usrt_up : ∀ l : List Int, (usrt l).Pairwise (· < ·)
  | [] => .nil
  | n :: r => insU_up n _ (usrt_up r)
theorem lt_one : ∀ {l m : List Int}, (∀ k, k ∈ l ↔ k ∈ m) → l.Pairwise (· < ·) → m.Pairwise (· < ·) → l = m
  | [], [], _, _, _ => rfl
  | [], k :: t, p, _, _ => by have := (p k).mpr (by simp); simp at this
  | n :: r, [], p, _, _ => by have := (p n).mp (by simp); simp at this
  | n :: r, k :: t, p, h, h' => by
    have e : n = k := by
      have a := (p n).mp (by simp)
      have b := (p k).mpr (by simp)
      rcases List.mem_cons.mp a with z | z
      · exact z
      · rcases List.mem_cons.mp b with y | y
        · exact y.symm
        · have := List.rel_of_pairwise_cons h' z
          have := List.rel_of_pairwise_cons h y
          omega
    subst e
    rw [lt_one (l := r) (m := t) (fun x => ?_) h.of_cons h'.of_cons]
    constructor
    · intro hx
      rcases List.mem_cons.mp ((p x).mp (List.mem_cons_of_mem _ hx)) with z | z
      · have := List.rel_of_pairwise_cons h hx
        omega
      · exact z
    · intro hx
      rcases List.mem_cons.mp ((p x).mpr (List.mem_cons_of_mem _ hx)) with z | z
      · have := List.rel_of_pairwise_cons h' hx
        omega
      · exact z
def sSrtSet : List PV → Option EV
  | [q] => match liI q with
    | some ns => if ns.length ≤ 1000 then some (.nw (.ow ((usrt ns).map PV.int))) else none
    | none => none
  | _ => none
theorem cs_srtSet {K : PySem.W.Frag} {N : Nm} {wo : World} : CallS K N (fun vs H Q => rSetL K wo vs H fun x H1 => rSortSet wo [x] H1 Q) sSrtSet := fun H R ps e vs Q sb d hs k => by
  unfold sSrtSet at hs
  split at hs
  · rename_i q
    obtain ⟨v, rfl, d1⟩ := one_d d
    split at hs
    · rename_i ns h
      split at hs
      · rename_i hl
        cases hs
        obtain ⟨a, rfl, hq⟩ := liI_ok sb d1 h
        refine ⟨a, ns, rfl, hq, hl, fun b c nb => ⟨b, _, c, rfl, upd_same, fun ks p up mem np => ?_⟩⟩
        have e : ks = usrt ns := lt_one (fun j => by rw [mem j, decide_eq_true_iff, usrt_mem]) up (usrt_up ns)
        subst e
        have hpb : p ≠ b := fun z => by subst z; rw [upd_same] at np; cases np
        have np' : H p = none := by rw [upd_ne hpb] at np; exact np
        have rb := rnone_of sb nb
        refine k (.ref p) _ R ⟨Sub.refl _, fun x o e => ?_, fun x o e => ?_, fun x o e => .inl e⟩ ⟨rfl, ⟨p, _, rfl, upd_same, Reps.ints _, rnone_of sb np'⟩, p, rfl, np'⟩
        · rw [upd_ne (ne_of_none e np'), upd_ne (ne_of_none e nb)]; exact e
        · have e' := sb x o e
          rw [upd_ne (ne_of_none e' np'), upd_ne (ne_of_none e' nb)]; exact e'
      · cases hs
    · cases hs
  · cases hs
section
variable {X : Cx} {N : Nm} {W : WX} {e : Expr} {fs : M (List EV)} {pos p p0 pos0 : Pos}
theorem be_srtSet (hc : X.calm = true) (hgs : Gl X "sorted") (hms : X.mg "sorted" = none) (hg : Gl X "set") (hm : X.mg "set" = none) (ha : BA X N W [e] fs)
    (na : starEach [e] X.env = (false, eval e X.env) :: starEach [] X.env := by rfl) (hp : (backTo pos0 (starEach [] X.env)).any (·.1) = false := by rfl)
    (nc : starEach [.Call (.Name "set" p0) [e] [] pos0] X.env = (false, eval (.Call (.Name "set" p0) [e] [] pos0) X.env) :: starEach [] X.env := by rfl) (hp2 : (backTo pos (starEach [] X.env)).any (·.1) = false := by rfl) :
    BE X N W (.Call (.Name "sorted" p) [.Call (.Name "set" p0) [e] [] pos0] [] pos) (bnd fs fun xs => bltV sSrtSet xs) :=
  pe_weak (pe_callB (cr_sortSet hc) hgs hms rfl (pa_cons (pe_callTy (cr_setL hc) hg hm rfl ha (he := na) (hpl := hp)) pa_nil nc) (he := nc) (hpl := hp2)) fun σ H Q ⟨ρ, R, r, h⟩ => ⟨ρ, R, r, Pst.bnd' .refl h fun xs ρ1 vs H1 R1 s1 _ r1 e1 h1 => bltV_ok cs_srtSet h1 s1 r1 e1⟩
end
end B

set_option Elab.async false
set_option linter.all false
set_option maxRecDepth 100000
set_option maxHeartbeats 4000000
/-! B37: t[lo:hi] of a tuple -/
namespace B
open PySem L2
section
variable {K : PySem.W.Frag} {N : Nm}
def slVT (p : PV) (lo hi : Option Int) : Option EV := match p with
  | .tup xs => some (.fz (.tup (cutP xs lo hi)))
  | _ => none
theorem slVT_ok {H R : Hp} {p : PV} {x : V} {lo hi : Option Int} {e : EV} {Q : VK} (sb : Sub R H) (d : RepD K N H R p x) (hs : slVT p lo hi = some e) (k : ∀ v H' R', Gr H R H' R' → NvR K N H H' R' e v → Q v H') : rSlA K x lo hi H Q := by
  unfold slVT at hs
  split at hs
  · rename_i xs
    cases hs
    cases (show Rep K N R (.tup xs) x from d) with
    | @tup _ vs a h1 h2 =>
      have l := h2.length
      refine ⟨a, vs, rfl, sb.tup h1, fun w => ?_, fun _ p np => ?_⟩
      · have e : cutP xs lo hi = xs := by
          unfold cutP
          rw [l, w.1, w.2, ← l]
          simp
        rw [e] at k
        exact k _ H R (Gr.refl sb) (.tup h1 h2)
      · have g := Gr.add (o := .tup (cutV vs lo hi)) sb np
        exact k _ _ _ g (.tup (.inl (.inl upd_same)) ((cutP_reps h2 lo hi).mono g.sub))
  · cases hs
end
section
variable {X : Cx} {N : Nm} {W : WX} {a : Expr} {pos p2 : Pos} {f : M EV} {fl fh : M (Option Int)} {lo hi : Option Expr}
theorem be_sliceT (ha : BE X N W a f) (hl : BP X N W lo fl) (hh : BP X N W hi fh) : BE X N W (.Subscript a (.Slice lo hi none p2) pos) (bnd f fun x => bnd fl fun l => bnd fh fun h => bnd (deref x) fun p => lift (slVT p l h)) :=
  pe_weak (pe_slice sl_tupA ha hl hh) fun σ H Q ⟨ρ, R, r, h⟩ => ⟨ρ, R, r, Pst.bnd' .refl h fun x ρ1 v H1 R1 s1 _ r1 e1 h1 => ⟨ρ1, R1, r1, Pst.bnd' s1 h1 fun l ρ2 l' H2 R2 s2 s12 r2 e2 h2 => ⟨ρ2, R2, r2, Pst.bnd' s2 h2 fun u ρ3 u' H3 R3 s3 s23 r3 e3 h3 => by
    cases (show l' = l from e2)
    cases (show u' = u from e3)
    exact deref_use h3 r3 ((e1.mono s12).mono s23) fun q d h4 => by
      cases e5 : slVT q l u with
      | none => rw [e5] at h4; exact h4.elim
      | some z =>
        rw [e5] at h4
        exact slVT_ok r3.sub d e5 fun v' H' R' g n => Pst.give h4 s3 r3 g n⟩⟩⟩
end
end B

set_option Elab.async false
set_option linter.all false
set_option maxRecDepth 100000
set_option maxHeartbeats 4000000
namespace L
open PySem L2 B
def isi_int : Kd → Option Bool := fun k => if [.non, .bl, .int, .str, .lst, .tup, .own 10].contains k then some (([.int, .bl] : List Kd).contains k) else none
def isi_bool : Kd → Option Bool := fun k => if [.non, .bl, .int, .str, .lst, .tup, .own 10].contains k then some (([.bl] : List Kd).contains k) else none
def isi_str : Kd → Option Bool := fun k => if [.non, .bl, .int, .str, .lst, .tup, .own 10].contains k then some (([.str] : List Kd).contains k) else none
def isi_Layout : Kd → Option Bool := fun k => if [.non, .bl, .int, .str, .lst, .tup, .own 10].contains k then some (([.own 10] : List Kd).contains k) else none
def isi_tuple : Kd → Option Bool := fun k => if [.non, .bl, .int, .str, .lst, .tup, .own 10].contains k then some (([.tup] : List Kd).contains k) else none
def cmpT : Kd → Bool := fun k => [.non, .bl, .int, .str, .lst, .tup, .own 10].contains k
def g_l_silo : MS := (seq (doS (pur (.fz (.at (.int 0)))) fun v => setS false 2 v) (seq (ifS (bnd (getV 1) fun x => bnd (bnd (bnd (getV 0) fun x => bnd (pur []) fun xs => pur (x :: xs)) fun xs => bltV sLen xs) fun y => bnd (op2 sLt x y) toB) (doS (bnd (getV 0) fun x => bnd (getV 1) fun y => op2 sIx x y) fun v => setS false 2 v) nxt) (doS (bnd (bnd (bnd (bnd (pur (.fz (.at (.int 0)))) fun x => bnd (bnd (bnd (getV 2) fun x => bnd (bnd (pur (.fz (.at (.int 10)))) fun x => bnd (pur (.fz (.at (.int 18)))) fun y => op2 sPow x y) fun y => op2 sSub x y) fun x => bnd (pur []) fun xs => pur (x :: xs)) fun xs => pur (x :: xs)) fun xs => bltV sMax xs) fun x => bnd (bnd (bnd (bnd (bnd (getV 2) fun x => bnd (bnd (bnd (pur (.fz (.at (.int 10)))) fun x => bnd (pur (.fz (.at (.int 39)))) fun y => op2 sPow x y) fun x => bnd (pur (.fz (.at (.int 3)))) fun y => op2 sPlus x y) fun y => op2 sMod x y) fun x => bnd (bnd (pur (.fz (.at (.int 70001)))) fun x => bnd (getV 1) fun y => op2 sMul x y) fun y => op2 sPlus x y) fun x => bnd (pur (.fz (.at (.int 29)))) fun y => op2 sPlus x y) fun x => bnd (bnd (pur (.fz (.at (.int 0)))) fun x => bnd (pur []) fun xs => pur (x :: xs)) fun xs => pur (x :: xs)) fun xs => pur (x :: xs)) lstV) fun v ρ => .rt v ρ)))
def F_l_silo : Fn := fnB 2 3 [] g_l_silo
def g_words_of : MS := (doS (bnd (bnd (getV 0) fun x => bnd (pur (.fz (.at (.str "")))) fun y => bnd (op2 sNe x y) toB) fun k => if k then (bnd (getV 0) fun x => bnd (isS x) fun _ => bnd (pur (.fz (.at (.str " ")))) fun y => op2 sSplit x y) else (bnd (pur []) lstV)) fun v ρ => .rt v ρ)
def F_words_of : Fn := fnB 1 1 [] g_words_of
def x_is_decimal_1 : M EV := (bnd (getV 3) fun x => bnd (pur (.fz (.at (.str "0123456789")))) fun y => op2 sInS x y)
def g_is_decimal : MS := (seq (ifS (orT (bnd (chainT sLe sLe (pur (.fz (.at (.int 1)))) (bnd (bnd (getV 0) fun x => bnd (pur []) fun xs => pur (x :: xs)) fun xs => bltV sLen xs) (pur (.fz (.at (.int 31))))) fun b => pur (!b)) (bnd (bnd (bnd (bnd (bnd (getV 0) fun x => lcV itemsS (tgN 3) [3] (pur true) x_is_decimal_1 x) fun x => bnd (pur []) fun xs => pur (x :: xs)) fun xs => bltV sAll xs) toB) fun b => pur (!b))) (doS (pur (.fz (.at (.bl false)))) fun v ρ => .rt v ρ) nxt) (doS (andV (orV (bnd (getV 0) fun x => bnd (pur (.fz (.at (.str "0")))) fun y => op2 sEq x y) (bnd (bnd (getV 0) fun x => bnd (pur (.fz (.at (.int 0)))) fun y => op2 sIx x y) fun x => bnd (pur (.fz (.at (.str "0")))) fun y => op2 sNe x y)) (chainV sLe sLe (getV 1) (bnd (bnd (getV 0) fun x => bnd (pur []) fun xs => pur (x :: xs)) fun xs => bltV sInt xs) (getV 2))) fun v ρ => .rt v ρ))
def F_is_decimal : Fn := fnB 3 4 [] g_is_decimal
def g_is_int : MS := (doS (andV (bnd (getV 0) fun x => isiV isi_int x) (bnd (bnd (getV 0) fun x => isiV isi_bool x) fun x => bnd (toB x) fun b => pur (.fz (.at (.bl (!b)))))) fun v ρ => .rt v ρ)
def F_is_int : Fn := fnB 1 1 [] g_is_int
def g_in_range : MS := (doS (andV (bnd (bnd (getV 0) fun x => bnd (pur []) fun xs => pur (x :: xs)) fun xs => callV [false] F_is_int xs) (chainV sLe sLe (getV 1) (getV 0) (getV 2))) fun v ρ => .rt v ρ)
def F_in_range : Fn := fnB 3 3 [] g_in_range
def g_is_power : MS := (doS (andV (bnd (bnd (getV 0) fun x => bnd (bnd (pur (.fz (.at (.int 1)))) fun x => bnd (bnd (pur (.fz (.at (.int 1152921504606846976)))) fun x => bnd (pur []) fun xs => pur (x :: xs)) fun xs => pur (x :: xs)) fun xs => pur (x :: xs)) fun xs => callV [false, false, false] F_in_range xs) (bnd (bnd (getV 0) fun x => bnd (bnd (getV 0) fun x => bnd (pur (.fz (.at (.int 1)))) fun y => op2 sSub x y) fun y => op2 sAnd x y) fun x => bnd (pur (.fz (.at (.int 0)))) fun y => op2 sEq x y)) fun v ρ => .rt v ρ)
def F_is_power : Fn := fnB 1 1 [] g_is_power
def g_is_align_word : MS := (doS (andV (bnd (bnd (getV 0) fun x => bnd (pur none) fun l => bnd (bnd (pur (.fz (.at (.int 1)))) toI) fun h => bnd (deref x) fun p => lift (slV p l h)) fun x => bnd (pur (.fz (.at (.str "@")))) fun y => op2 sEq x y) (andV (bnd (bnd (bnd (getV 0) fun x => bnd (bnd (pur (.fz (.at (.int 1)))) toI) fun l => bnd (pur none) fun h => bnd (deref x) fun p => lift (slV p l h)) fun x => bnd (bnd (pur (.fz (.at (.int 2)))) fun x => bnd (bnd (pur (.fz (.at (.int 1152921504606846976)))) fun x => bnd (pur []) fun xs => pur (x :: xs)) fun xs => pur (x :: xs)) fun xs => pur (x :: xs)) fun xs => callV [false, false, false] F_is_decimal xs) (bnd (bnd (bnd (bnd (bnd (getV 0) fun x => bnd (bnd (pur (.fz (.at (.int 1)))) toI) fun l => bnd (pur none) fun h => bnd (deref x) fun p => lift (slV p l h)) fun x => bnd (pur []) fun xs => pur (x :: xs)) fun xs => bltV sInt xs) fun x => bnd (pur []) fun xs => pur (x :: xs)) fun xs => callV [false] F_is_power xs))) fun v ρ => .rt v ρ)
def F_is_align_word : Fn := fnB 1 1 [] g_is_align_word
def x_is_letters_1 : M EV := (bnd (getV 1) fun x => bnd (pur (.fz (.at (.str "abcdefghijklmnopqrstuvwxyz")))) fun y => op2 sInS x y)
def g_is_letters : MS := (doS (andV (bnd (getV 0) fun x => isiV isi_str x) (andV (chainV sLe sLe (pur (.fz (.at (.int 1)))) (bnd (bnd (getV 0) fun x => bnd (pur []) fun xs => pur (x :: xs)) fun xs => bltV sLen xs) (pur (.fz (.at (.int 8))))) (bnd (bnd (bnd (getV 0) fun x => lcV itemsS (tgN 1) [1] (pur true) x_is_letters_1 x) fun x => bnd (pur []) fun xs => pur (x :: xs)) fun xs => bltV sAll xs))) fun v ρ => .rt v ρ)
def F_is_letters : Fn := fnB 1 2 [] g_is_letters
def g_is_single : MS := (doS (orV (bnd (bnd (getV 0) fun x => bnd (bnd (pur (.fz (.at (.int 0)))) fun x => bnd (bnd (pur (.fz (.at (.int 1000000000000000000000000000000)))) fun x => bnd (pur []) fun xs => pur (x :: xs)) fun xs => pur (x :: xs)) fun xs => pur (x :: xs)) fun xs => callV [false, false, false] F_is_decimal xs) (orV (bnd (bnd (getV 0) fun x => bnd (pur []) fun xs => pur (x :: xs)) fun xs => callV [false] F_is_align_word xs) (andV (bnd (bnd (getV 0) fun x => bnd (bnd (bnd (pur (.fz (.at (.int 1)))) fun x => op1 sNeg x) toI) fun l => bnd (pur none) fun h => bnd (deref x) fun p => lift (slV p l h)) fun x => bnd (pur (.fz (.at (.str ":")))) fun y => op2 sEq x y) (bnd (bnd (bnd (getV 0) fun x => bnd (pur none) fun l => bnd (bnd (bnd (pur (.fz (.at (.int 1)))) fun x => op1 sNeg x) toI) fun h => bnd (deref x) fun p => lift (slV p l h)) fun x => bnd (pur []) fun xs => pur (x :: xs)) fun xs => callV [false] F_is_letters xs)))) fun v ρ => .rt v ρ)
def F_is_single : Fn := fnB 1 1 [] g_is_single
def g_first_wrong_1 : MS := (ifS (bnd (bnd (bnd (getV 1) fun x => bnd (pur []) fun xs => pur (x :: xs)) fun xs => bltV sLen xs) fun x => bnd (pur (.fz (.at (.int 12)))) fun y => bnd (op2 sGt x y) toB) (doS (getV 3) fun v ρ => .rt v ρ) nxt)
def g_first_wrong_2 : MS := (doS (bnd (getV 1) fun x => bnd (bnd (bnd (bnd (bnd (pur (.fz (.at (.str "repeat")))) fun x => bnd (bnd (pur (.fz (.at (.bl false)))) fun x => bnd (pur []) fun xs => pur (x :: xs)) fun xs => pur (x :: xs)) tupV) fun x => bnd (pur []) fun xs => pur (x :: xs)) lstV) fun y => op2 sPlus x y) fun v => setS false 1 v)
def g_first_wrong_3 : MS := (ifS (orT (bnd (bnd (bnd (getV 1) fun x => bnd (pur []) fun xs => pur (x :: xs)) fun xs => bltV sLen xs) fun x => bnd (pur (.fz (.at (.int 12)))) fun y => bnd (op2 sGt x y) toB) (orT (bnd (getV 2) fun x => bnd (pur (.fz (.at (.int 6)))) fun y => bnd (op2 sEq x y) toB) (bnd (getV 5) fun x => bnd (pur (.fz (.at (.str "repeat")))) fun y => bnd (op2 sEq x y) toB))) (doS (getV 3) fun v ρ => .rt v ρ) nxt)
def g_first_wrong_4 : MS := (doS (bnd (getV 1) fun x => bnd (bnd (bnd (bnd (bnd (pur (.fz (.at (.str "first")))) fun x => bnd (bnd (pur (.fz (.at (.bl false)))) fun x => bnd (pur []) fun xs => pur (x :: xs)) fun xs => pur (x :: xs)) tupV) fun x => bnd (pur []) fun xs => pur (x :: xs)) lstV) fun y => op2 sPlus x y) fun v => setS false 1 v)
def g_first_wrong_5 : MS := (doS (bnd (bnd (getV 1) fun x => bnd (pur none) fun l => bnd (bnd (bnd (pur (.fz (.at (.int 1)))) fun x => op1 sNeg x) toI) fun h => bnd (deref x) fun p => lift (slV p l h)) fun x => bnd (bnd (bnd (bnd (bnd (pur (.fz (.at (.str "second")))) fun x => bnd (bnd (pur (.fz (.at (.bl false)))) fun x => bnd (pur []) fun xs => pur (x :: xs)) fun xs => pur (x :: xs)) tupV) fun x => bnd (pur []) fun xs => pur (x :: xs)) lstV) fun y => op2 sPlus x y) fun v => setS false 1 v)
def g_first_wrong_6 : MS := (ifS (orT (bnd (getV 5) fun x => bnd (pur (.fz (.at (.str "repeat")))) fun y => bnd (op2 sNe x y) toB) (orT (bnd (bnd (getV 6) toB) fun b => pur (!b)) (bnd (bnd (bnd (bnd (bnd (getV 4) fun x => bnd (bnd (pur (.fz (.at (.int 1)))) toI) fun l => bnd (pur none) fun h => bnd (deref x) fun p => lift (slV p l h)) fun x => bnd (bnd (pur (.fz (.at (.int 2)))) fun x => bnd (bnd (pur (.fz (.at (.int 1000000000000000000000000000000)))) fun x => bnd (pur []) fun xs => pur (x :: xs)) fun xs => pur (x :: xs)) fun xs => pur (x :: xs)) fun xs => callV [false, false, false] F_is_decimal xs) toB) fun b => pur (!b)))) (doS (getV 3) fun v ρ => .rt v ρ) nxt)
def g_first_wrong_7 : MS := (ifS (bnd (bnd (getV 4) fun x => bnd (pur none) fun l => bnd (bnd (pur (.fz (.at (.int 1)))) toI) fun h => bnd (deref x) fun p => lift (slV p l h)) fun x => bnd (pur (.fz (.at (.str ")")))) fun y => bnd (op2 sEq x y) toB) (seq g_first_wrong_6 (doS (bnd (getV 1) fun x => bnd (pur none) fun l => bnd (bnd (bnd (pur (.fz (.at (.int 1)))) fun x => op1 sNeg x) toI) fun h => bnd (deref x) fun p => lift (slV p l h)) fun v => setS false 1 v)) (ifS (bnd (getV 4) fun x => bnd (pur (.fz (.at (.str "}")))) fun y => bnd (op2 sEq x y) toB) (seq (ifS (bnd (getV 5) fun x => bnd (pur (.fz (.at (.str "second")))) fun y => bnd (op2 sNe x y) toB) (doS (getV 3) fun v ρ => .rt v ρ) nxt) (doS (bnd (getV 1) fun x => bnd (pur none) fun l => bnd (bnd (bnd (pur (.fz (.at (.int 1)))) fun x => op1 sNeg x) toI) fun h => bnd (deref x) fun p => lift (slV p l h)) fun v => setS false 1 v)) (ifS (orT (andT (bnd (getV 4) fun x => bnd (bnd (getV 0) fun x => bnd (pur none) fun l => bnd (bnd (getV 3) toI) fun h => bnd (deref x) fun p => lift (slV p l h)) fun y => bnd (op2 (sIn false) x y) toB) (bnd (bnd (getV 4) fun x => bnd (bnd (bnd (pur (.fz (.at (.int 1)))) fun x => op1 sNeg x) toI) fun l => bnd (pur none) fun h => bnd (deref x) fun p => lift (slV p l h)) fun x => bnd (pur (.fz (.at (.str ":")))) fun y => bnd (op2 sEq x y) toB)) (bnd (bnd (bnd (bnd (getV 4) fun x => bnd (pur []) fun xs => pur (x :: xs)) fun xs => callV [false] F_is_single xs) toB) fun b => pur (!b))) (doS (getV 3) fun v ρ => .rt v ρ) nxt)))
def g_first_wrong_8 : MS := (doS (bnd (bnd (getV 1) fun x => bnd (pur none) fun l => bnd (bnd (bnd (pur (.fz (.at (.int 1)))) fun x => op1 sNeg x) toI) fun h => bnd (deref x) fun p => lift (slV p l h)) fun x => bnd (bnd (bnd (bnd (bnd (bnd (bnd (getV 1) fun x => bnd (bnd (pur (.fz (.at (.int 1)))) fun x => op1 sNeg x) fun y => op2 sIx x y) fun x => bnd (pur (.fz (.at (.int 0)))) fun y => op2 sIx x y) fun x => bnd (bnd (pur (.fz (.at (.bl true)))) fun x => bnd (pur []) fun xs => pur (x :: xs)) fun xs => pur (x :: xs)) tupV) fun x => bnd (pur []) fun xs => pur (x :: xs)) lstV) fun y => op2 sPlus x y) fun v => setS false 1 v)
def g_first_wrong_9 : MS := (ifS (bnd (getV 4) fun x => bnd (pur (.fz (.at (.str "(")))) fun y => bnd (op2 sEq x y) toB) (seq g_first_wrong_1 g_first_wrong_2) (ifS (bnd (getV 4) fun x => bnd (pur (.fz (.at (.str "{")))) fun y => bnd (op2 sEq x y) toB) (seq g_first_wrong_3 (seq (doS (bnd (getV 2) fun x => bnd (pur (.fz (.at (.int 1)))) fun y => op2 sPlus x y) fun v => setS false 2 v) g_first_wrong_4)) (ifS (bnd (getV 4) fun x => bnd (pur (.fz (.at (.str "|")))) fun y => bnd (op2 sEq x y) toB) (seq (ifS (bnd (getV 5) fun x => bnd (pur (.fz (.at (.str "first")))) fun y => bnd (op2 sNe x y) toB) (doS (getV 3) fun v ρ => .rt v ρ) nxt) g_first_wrong_5) (seq g_first_wrong_7 g_first_wrong_8))))
def g_first_wrong_10 : MS := (seq (doS (bnd (getV 1) fun x => bnd (bnd (pur (.fz (.at (.int 1)))) fun x => op1 sNeg x) fun y => op2 sIx x y) fun v => unpS (tgT [(tgN 5), (tgN 6)]) v) (seq (ifS (bnd (getV 3) fun x => bnd (pur (.fz (.at (.int 400)))) fun y => bnd (op2 sGe x y) toB) (doS (getV 3) fun v ρ => .rt v ρ) nxt) g_first_wrong_9))
def g_first_wrong_11 : MS := (doS (bnd (bnd (bnd (bnd (pur (.fz (.at (.str "all")))) fun x => bnd (bnd (pur (.fz (.at (.bl false)))) fun x => bnd (pur []) fun xs => pur (x :: xs)) fun xs => pur (x :: xs)) tupV) fun x => bnd (pur []) fun xs => pur (x :: xs)) lstV) fun v => setS false 1 v)
def g_first_wrong_12 : MS := (doS (bnd (bnd (bnd (bnd (getV 1) fun x => bnd (pur []) fun xs => pur (x :: xs)) fun xs => bltV sLen xs) fun x => bnd (pur (.fz (.at (.int 1)))) fun y => bnd (op2 sEq x y) toB) fun k => if k then (pur (.fz (.at .non))) else (bnd (bnd (getV 0) fun x => bnd (pur []) fun xs => pur (x :: xs)) fun xs => bltV sLen xs)) fun v ρ => .rt v ρ)
def g_first_wrong : MS := (seq g_first_wrong_11 (seq (doS (pur (.fz (.at (.int 0)))) fun v => setS false 2 v) (seq (doS (bnd (getV 0) fun x => bnd (pur []) fun xs => pur (x :: xs)) fun xs => forEn_ (tgT [(tgN 3), (tgN 4)]) g_first_wrong_10 xs) g_first_wrong_12)))
def F_first_wrong : Fn := fnB 1 7 [] g_first_wrong
def g_nodes_from_1 (Fr : Fn) : MS := (doS (bnd (bnd (getV 0) fun x => bnd (bnd (bnd (getV 3) fun x => bnd (pur (.fz (.at (.int 1)))) fun y => op2 sPlus x y) fun x => bnd (pur []) fun xs => pur (x :: xs)) fun xs => pur (x :: xs)) fun xs => callV [false, false] Fr xs) fun v => unpS (tgT [(tgN 5), (tgN 1)]) v)
def g_nodes_from_2 (Fr : Fn) : MS := (doS (bnd (hasO 2) fun _ => bnd (bnd (bnd (bnd (pur (.fz (.at (.str "repeat")))) fun x => bnd (bnd (bnd (bnd (bnd (bnd (getV 0) fun x => bnd (getV 1) fun y => op2 sIx x y) fun x => bnd (bnd (pur (.fz (.at (.int 1)))) toI) fun l => bnd (pur none) fun h => bnd (deref x) fun p => lift (slV p l h)) fun x => bnd (pur []) fun xs => pur (x :: xs)) fun xs => bltV sInt xs) fun x => bnd (bnd (getV 5) fun x => bnd (bnd (getV 3) fun x => bnd (pur []) fun xs => pur (x :: xs)) fun xs => pur (x :: xs)) fun xs => pur (x :: xs)) fun xs => pur (x :: xs)) tupV) fun x => bnd (pur []) fun xs => pur (x :: xs)) fun xs => apM 2 xs) fun _ => nxt)
def g_nodes_from_3 (Fr : Fn) : MS := (doS (bnd (bnd (getV 0) fun x => bnd (bnd (bnd (getV 3) fun x => bnd (pur (.fz (.at (.int 1)))) fun y => op2 sPlus x y) fun x => bnd (pur []) fun xs => pur (x :: xs)) fun xs => pur (x :: xs)) fun xs => callV [false, false] Fr xs) fun v => unpS (tgT [(tgN 6), (tgN 7)]) v)
def g_nodes_from_4 (Fr : Fn) : MS := (doS (bnd (bnd (getV 0) fun x => bnd (bnd (bnd (getV 7) fun x => bnd (pur (.fz (.at (.int 1)))) fun y => op2 sPlus x y) fun x => bnd (pur []) fun xs => pur (x :: xs)) fun xs => pur (x :: xs)) fun xs => callV [false, false] Fr xs) fun v => unpS (tgT [(tgN 8), (tgN 1)]) v)
def g_nodes_from_5 (Fr : Fn) : MS := (doS (bnd (hasO 2) fun _ => bnd (bnd (bnd (bnd (pur (.fz (.at (.str "overlay")))) fun x => bnd (bnd (getV 6) fun x => bnd (bnd (getV 8) fun x => bnd (bnd (getV 3) fun x => bnd (pur []) fun xs => pur (x :: xs)) fun xs => pur (x :: xs)) fun xs => pur (x :: xs)) fun xs => pur (x :: xs)) tupV) fun x => bnd (pur []) fun xs => pur (x :: xs)) fun xs => apM 2 xs) fun _ => nxt)
def g_nodes_from_6 (Fr : Fn) : MS := (ifS (bnd (getV 4) fun x => bnd (pur (.fz (.at (.str "(")))) fun y => bnd (op2 sEq x y) toB) (seq (g_nodes_from_1 Fr) (g_nodes_from_2 Fr)) (ifS (bnd (getV 4) fun x => bnd (pur (.fz (.at (.str "{")))) fun y => bnd (op2 sEq x y) toB) (seq (g_nodes_from_3 Fr) (seq (g_nodes_from_4 Fr) (g_nodes_from_5 Fr))) (ifS (bnd (bnd (getV 4) fun x => bnd (pur (.fz (.at (.int 0)))) fun y => op2 sIx x y) fun x => bnd (pur (.fz (.at (.str "@")))) fun y => bnd (op2 sEq x y) toB) (doS (bnd (hasO 2) fun _ => bnd (bnd (bnd (bnd (pur (.fz (.at (.str "align")))) fun x => bnd (bnd (bnd (bnd (bnd (getV 4) fun x => bnd (bnd (pur (.fz (.at (.int 1)))) toI) fun l => bnd (pur none) fun h => bnd (deref x) fun p => lift (slV p l h)) fun x => bnd (pur []) fun xs => pur (x :: xs)) fun xs => bltV sInt xs) fun x => bnd (bnd (getV 3) fun x => bnd (pur []) fun xs => pur (x :: xs)) fun xs => pur (x :: xs)) fun xs => pur (x :: xs)) tupV) fun x => bnd (pur []) fun xs => pur (x :: xs)) fun xs => apM 2 xs) fun _ => nxt) (ifS (bnd (bnd (getV 4) fun x => bnd (bnd (pur (.fz (.at (.int 1)))) fun x => op1 sNeg x) fun y => op2 sIx x y) fun x => bnd (pur (.fz (.at (.str ":")))) fun y => bnd (op2 sEq x y) toB) (doS (bnd (hasO 2) fun _ => bnd (bnd (bnd (bnd (pur (.fz (.at (.str "label")))) fun x => bnd (bnd (bnd (getV 4) fun x => bnd (pur none) fun l => bnd (bnd (bnd (pur (.fz (.at (.int 1)))) fun x => op1 sNeg x) toI) fun h => bnd (deref x) fun p => lift (slV p l h)) fun x => bnd (bnd (getV 3) fun x => bnd (pur []) fun xs => pur (x :: xs)) fun xs => pur (x :: xs)) fun xs => pur (x :: xs)) tupV) fun x => bnd (pur []) fun xs => pur (x :: xs)) fun xs => apM 2 xs) fun _ => nxt) (doS (bnd (hasO 2) fun _ => bnd (bnd (bnd (bnd (pur (.fz (.at (.str "size")))) fun x => bnd (bnd (bnd (bnd (getV 4) fun x => bnd (pur []) fun xs => pur (x :: xs)) fun xs => bltV sInt xs) fun x => bnd (bnd (getV 3) fun x => bnd (pur []) fun xs => pur (x :: xs)) fun xs => pur (x :: xs)) fun xs => pur (x :: xs)) tupV) fun x => bnd (pur []) fun xs => pur (x :: xs)) fun xs => apM 2 xs) fun _ => nxt)))))
def g_nodes_from_7 (Fr : Fn) : MS := (seq (doS (getV 1) fun v => setS false 3 v) (seq (doS (bnd (getV 0) fun x => bnd (getV 3) fun y => op2 sIx x y) fun v => setS false 4 v) (seq (g_nodes_from_6 Fr) (doS (bnd (getV 1) fun x => bnd (pur (.fz (.at (.int 1)))) fun y => op2 sPlus x y) fun v => setS false 1 v))))
def g_nodes_from_8 (Fr : Fn) : MS := (whileS (andT (bnd (getV 1) fun x => bnd (bnd (bnd (getV 0) fun x => bnd (pur []) fun xs => pur (x :: xs)) fun xs => bltV sLen xs) fun y => bnd (op2 sLt x y) toB) (andT (bnd (bnd (getV 0) fun x => bnd (getV 1) fun y => op2 sIx x y) fun x => bnd (bnd (bnd (pur (.fz (.at (.str "|")))) fun x => bnd (bnd (pur (.fz (.at (.str "}")))) fun x => bnd (pur []) fun xs => pur (x :: xs)) fun xs => pur (x :: xs)) tupV) fun y => bnd (op2 (sIn true) x y) toB) (bnd (bnd (bnd (getV 0) fun x => bnd (getV 1) fun y => op2 sIx x y) fun x => bnd (pur (.fz (.at (.int 0)))) fun y => op2 sIx x y) fun x => bnd (pur (.fz (.at (.str ")")))) fun y => bnd (op2 sNe x y) toB))) (g_nodes_from_7 Fr) 500)
def g_nodes_from_9 (Fr : Fn) : MS := (doS (bnd (bnd (bnd (bnd (getV 2) fun x => bnd (pur []) fun xs => pur (x :: xs)) fun xs => bltV sTupL xs) fun x => bnd (bnd (getV 1) fun x => bnd (pur []) fun xs => pur (x :: xs)) fun xs => pur (x :: xs)) tupV) fun v ρ => .rt v ρ)
def g_nodes_from (Fr : Fn) : MS := (seq (doS (bnd (pur []) lstV) fun v => setS true 2 v) (seq (g_nodes_from_8 Fr) (g_nodes_from_9 Fr)))
def F_nodes_from : Fn := recB 2 9 [] g_nodes_from 16
def g_nodes_in : MS := (doS (bnd (bnd (bnd (getV 0) fun x => bnd (bnd (pur (.fz (.at (.int 0)))) fun x => bnd (pur []) fun xs => pur (x :: xs)) fun xs => pur (x :: xs)) fun xs => callV [false, false] F_nodes_from xs) fun x => bnd (pur (.fz (.at (.int 0)))) fun y => op2 sIx x y) fun v ρ => .rt v ρ)
def F_nodes_in : Fn := fnB 1 1 [] g_nodes_in
def t_Layout_init_1 : M Bool := (bnd (bnd (getV 4) fun x => bnd (bnd (pur (.fz (.at (.int 1)))) fun x => op1 sNeg x) fun y => op2 sIx x y) fun x => bnd (pur (.fz (.at (.str ":")))) fun y => bnd (op2 sEq x y) toB)
def x_Layout_init_2 : M EV := (bnd (getV 4) fun x => bnd (pur none) fun l => bnd (bnd (bnd (pur (.fz (.at (.int 1)))) fun x => op1 sNeg x) toI) fun h => bnd (deref x) fun p => lift (slV p l h))
def t_Layout_init_3 : M Bool := (bnd (bnd (getV 4) fun x => bnd (pur (.fz (.at (.int 0)))) fun y => op2 sIx x y) fun x => bnd (pur (.fz (.at (.str "@")))) fun y => bnd (op2 sEq x y) toB)
def x_Layout_init_4 : M EV := (bnd (bnd (bnd (getV 4) fun x => bnd (bnd (pur (.fz (.at (.int 1)))) toI) fun l => bnd (pur none) fun h => bnd (deref x) fun p => lift (slV p l h)) fun x => bnd (pur []) fun xs => pur (x :: xs)) fun xs => bltV sInt xs)
def g_Layout_init_5 : MS := (doS (bnd (bnd (bnd (bnd (bnd (pur (.fz (.at (.int 1)))) fun x => bnd (pur []) fun xs => pur (x :: xs)) lstV) fun x => bnd (bnd (getV 2) fun x => lcV itemsL (tgN 4) [4] t_Layout_init_3 x_Layout_init_4 x) fun y => op2 sPlus x y) fun x => bnd (pur []) fun xs => pur (x :: xs)) fun xs => bltV sMaxL xs) fun v => setFld 10 7 0 v)
def g_Layout_init : MS := (seq (ifS (bnd (bnd (bnd (getV 1) fun x => isiV isi_str x) toB) fun b => pur (!b)) (fun _ => .no) nxt) (seq (doS (bnd (bnd (getV 1) fun x => bnd (pur []) fun xs => pur (x :: xs)) fun xs => callV [false] F_words_of xs) fun v => setS false 2 v) (seq (doS (bnd (bnd (getV 2) fun x => bnd (pur []) fun xs => pur (x :: xs)) fun xs => callV [false] F_first_wrong xs) fun v => setS false 3 v) (seq (ifS (bnd (getV 3) fun x => bnd (pur (.fz (.at .non))) fun y => bnd (op2 sNotN x y) toB) (fun _ => .no) nxt) (seq (doS (getV 1) fun v => setFld 10 3 0 v) (seq (doS (bnd (bnd (getV 2) fun x => bnd (pur []) fun xs => pur (x :: xs)) fun xs => bltV sTupL xs) fun v => setFld 10 4 0 v) (seq (doS (bnd (bnd (getV 2) fun x => bnd (pur []) fun xs => pur (x :: xs)) fun xs => callV [false] F_nodes_in xs) fun v => setFld 10 5 0 v) (seq (doS (bnd (bnd (bnd (getV 2) fun x => lcV itemsL (tgN 4) [4] t_Layout_init_1 x_Layout_init_2 x) fun x => bnd (pur []) fun xs => pur (x :: xs)) fun xs => bltV sTupL xs) fun v => setFld 10 6 0 v) g_Layout_init_5))))))))
def F_Layout_init : Fn := fnB 2 5 [0] g_Layout_init
def g_l_words_1 (Fr : Fn) : MS := (ifS (bnd (bnd (getV 2) fun x => bnd (pur (.fz (.at (.int 0)))) fun y => op2 sIx x y) fun x => bnd (pur (.fz (.at (.str "rep")))) fun y => bnd (op2 sEq x y) toB) (doS (bnd (bnd (bnd (getV 1) fun x => bnd (bnd (bnd (pur (.fz (.at (.str "(")))) fun x => bnd (pur []) fun xs => pur (x :: xs)) lstV) fun y => op2 sPlus x y) fun x => bnd (bnd (bnd (bnd (getV 2) fun x => bnd (pur (.fz (.at (.int 2)))) fun y => op2 sIx x y) fun x => bnd (pur []) fun xs => pur (x :: xs)) fun xs => callV [false] Fr xs) fun y => op2 sPlus x y) fun x => bnd (bnd (bnd (bnd (pur (.fz (.at (.str ")")))) fun x => bnd (bnd (bnd (bnd (getV 2) fun x => bnd (pur (.fz (.at (.int 1)))) fun y => op2 sIx x y) fun x => bnd (pur []) fun xs => pur (x :: xs)) fun xs => bltV sStrX xs) fun y => op2 sPlus x y) fun x => bnd (pur []) fun xs => pur (x :: xs)) lstV) fun y => op2 sPlus x y) fun v => setS true 1 v) (ifS (bnd (bnd (getV 2) fun x => bnd (pur (.fz (.at (.int 0)))) fun y => op2 sIx x y) fun x => bnd (pur (.fz (.at (.str "over")))) fun y => bnd (op2 sEq x y) toB) (doS (bnd (bnd (bnd (bnd (bnd (getV 1) fun x => bnd (bnd (bnd (pur (.fz (.at (.str "{")))) fun x => bnd (pur []) fun xs => pur (x :: xs)) lstV) fun y => op2 sPlus x y) fun x => bnd (bnd (bnd (bnd (getV 2) fun x => bnd (pur (.fz (.at (.int 1)))) fun y => op2 sIx x y) fun x => bnd (pur []) fun xs => pur (x :: xs)) fun xs => callV [false] Fr xs) fun y => op2 sPlus x y) fun x => bnd (bnd (bnd (pur (.fz (.at (.str "|")))) fun x => bnd (pur []) fun xs => pur (x :: xs)) lstV) fun y => op2 sPlus x y) fun x => bnd (bnd (bnd (bnd (getV 2) fun x => bnd (pur (.fz (.at (.int 2)))) fun y => op2 sIx x y) fun x => bnd (pur []) fun xs => pur (x :: xs)) fun xs => callV [false] Fr xs) fun y => op2 sPlus x y) fun x => bnd (bnd (bnd (pur (.fz (.at (.str "}")))) fun x => bnd (pur []) fun xs => pur (x :: xs)) lstV) fun y => op2 sPlus x y) fun v => setS true 1 v) (doS (bnd (hasO 1) fun _ => bnd (bnd (bnd (bnd (bnd (bnd (bnd (pur (.fz (.at (.str "")))) fun x => bnd (bnd (pur (.fz (.at (.str "@")))) fun x => bnd (pur []) fun xs => pur (x :: xs)) fun xs => pur (x :: xs)) lstV) fun x => bnd (bnd (bnd (bnd (bnd (getV 2) fun x => bnd (pur (.fz (.at (.int 0)))) fun y => op2 sIx x y) fun x => bnd (pur (.fz (.at (.str "align")))) fun y => op2 sEq x y) fun x => bnd (pur []) fun xs => pur (x :: xs)) fun xs => bltV sInt xs) fun y => op2 sIx x y) fun x => bnd (bnd (bnd (bnd (getV 2) fun x => bnd (pur (.fz (.at (.int 1)))) fun y => op2 sIx x y) fun x => bnd (pur []) fun xs => pur (x :: xs)) fun xs => bltV sStrX xs) fun y => op2 sPlus x y) fun x => bnd (bnd (bnd (bnd (pur (.fz (.at (.str "")))) fun x => bnd (bnd (pur (.fz (.at (.str ":")))) fun x => bnd (pur []) fun xs => pur (x :: xs)) fun xs => pur (x :: xs)) lstV) fun x => bnd (bnd (bnd (bnd (bnd (getV 2) fun x => bnd (pur (.fz (.at (.int 0)))) fun y => op2 sIx x y) fun x => bnd (pur (.fz (.at (.str "label")))) fun y => op2 sEq x y) fun x => bnd (pur []) fun xs => pur (x :: xs)) fun xs => bltV sInt xs) fun y => op2 sIx x y) fun y => op2 sPlus x y) fun x => bnd (pur []) fun xs => pur (x :: xs)) fun xs => apM 1 xs) fun _ => nxt)))
def g_l_words (Fr : Fn) : MS := (seq (doS (bnd (pur []) lstV) fun v => setS true 1 v) (seq (doS (getV 0) fun x => forM_ itemsL (tgN 2) (g_l_words_1 Fr) x) (doS (getV 1) fun v ρ => .rt v ρ)))
def F_l_words : Fn := recB 1 3 [] g_l_words 16
def g_Layout_alignment : MS := (doS (bnd (getV 0) fun y => fldV 10 7 y) fun v ρ => .rt v ρ)
def F_Layout_alignment : Fn := fnB 1 1 [] g_Layout_alignment
def g_l_ceil : MS := (doS (bnd (pur (.fz (.at (.int 0)))) fun x => bnd (bnd (bnd (bnd (pur (.fz (.at (.int 0)))) fun x => bnd (getV 1) fun y => op2 sSub x y) fun x => bnd (getV 0) fun y => op2 sDiv x y) fun x => bnd (getV 0) fun y => op2 sMul x y) fun y => op2 sSub x y) fun v ρ => .rt v ρ)
def F_l_ceil : Fn := fnB 2 2 [] g_l_ceil
def g_l_walk_1 (Fr : Fn) : MS := (doS (bnd (bnd (bnd (getV 5) fun x => bnd (pur (.fz (.at (.int 2)))) fun y => op2 sIx x y) fun x => bnd (bnd (bnd (getV 6) fun x => bnd (pur (.fz (.at (.int 0)))) fun y => op2 sIx x y) fun x => bnd (bnd (bnd (getV 2) fun x => bnd (pur (.fz (.at (.int 1)))) fun y => op2 sPlus x y) fun x => bnd (bnd (bnd (getV 3) fun x => bnd (bnd (bnd (getV 7) fun x => bnd (pur []) fun xs => pur (x :: xs)) tupV) fun y => op2 sPlusT x y) fun x => bnd (bnd (getV 4) fun x => bnd (pur []) fun xs => pur (x :: xs)) fun xs => pur (x :: xs)) fun xs => pur (x :: xs)) fun xs => pur (x :: xs)) fun xs => pur (x :: xs)) fun xs => callV [false, false, false, false, true] Fr xs) fun v => setS false 6 v)
def g_l_walk_2 (Fr : Fn) : MS := (doS (bnd (bnd (getV 6) fun x => bnd (pur (.fz (.at (.int 0)))) fun y => op2 sIx x y) fun x => bnd (bnd (bnd (bnd (getV 6) fun x => bnd (pur (.fz (.at (.int 1)))) fun y => op2 sIx x y) fun x => bnd (pur (.fz (.at (.int 1)))) fun y => op2 sPlus x y) fun x => bnd (pur []) fun xs => pur (x :: xs)) fun xs => pur (x :: xs)) fun xs => parS false false 1 2 xs)
def g_l_walk_3 (Fr : Fn) : MS := (doS (bnd (bnd (bnd (getV 5) fun x => bnd (pur (.fz (.at (.int 1)))) fun y => op2 sIx x y) fun x => bnd (bnd (getV 1) fun x => bnd (bnd (bnd (getV 2) fun x => bnd (pur (.fz (.at (.int 1)))) fun y => op2 sPlus x y) fun x => bnd (bnd (getV 3) fun x => bnd (bnd (getV 4) fun x => bnd (pur []) fun xs => pur (x :: xs)) fun xs => pur (x :: xs)) fun xs => pur (x :: xs)) fun xs => pur (x :: xs)) fun xs => pur (x :: xs)) fun xs => callV [false, false, false, false, true] Fr xs) fun v => setS false 8 v)
def g_l_walk_4 (Fr : Fn) : MS := (doS (bnd (bnd (bnd (getV 5) fun x => bnd (pur (.fz (.at (.int 2)))) fun y => op2 sIx x y) fun x => bnd (bnd (getV 1) fun x => bnd (bnd (bnd (bnd (getV 8) fun x => bnd (pur (.fz (.at (.int 1)))) fun y => op2 sIx x y) fun x => bnd (pur (.fz (.at (.int 1)))) fun y => op2 sPlus x y) fun x => bnd (bnd (getV 3) fun x => bnd (bnd (getV 4) fun x => bnd (pur []) fun xs => pur (x :: xs)) fun xs => pur (x :: xs)) fun xs => pur (x :: xs)) fun xs => pur (x :: xs)) fun xs => pur (x :: xs)) fun xs => callV [false, false, false, false, true] Fr xs) fun v => setS false 9 v)
def g_l_walk_5 (Fr : Fn) : MS := (doS (bnd (bnd (bnd (bnd (getV 8) fun x => bnd (pur (.fz (.at (.int 0)))) fun y => op2 sIx x y) fun x => bnd (bnd (bnd (getV 9) fun x => bnd (pur (.fz (.at (.int 0)))) fun y => op2 sIx x y) fun x => bnd (pur []) fun xs => pur (x :: xs)) fun xs => pur (x :: xs)) fun xs => bltV sMax xs) fun x => bnd (bnd (bnd (bnd (getV 9) fun x => bnd (pur (.fz (.at (.int 1)))) fun y => op2 sIx x y) fun x => bnd (pur (.fz (.at (.int 1)))) fun y => op2 sPlus x y) fun x => bnd (pur []) fun xs => pur (x :: xs)) fun xs => pur (x :: xs)) fun xs => parS false false 1 2 xs)
def g_l_walk_6 (Fr : Fn) : MS := (ifS (bnd (bnd (getV 5) fun x => bnd (pur (.fz (.at (.int 0)))) fun y => op2 sIx x y) fun x => bnd (pur (.fz (.at (.str "size")))) fun y => bnd (op2 sEq x y) toB) (doS (bnd (getV 1) fun x => bnd (bnd (getV 5) fun x => bnd (pur (.fz (.at (.int 1)))) fun y => op2 sIx x y) fun y => op2 sPlus x y) fun v => setS false 10 v) nxt)
def g_l_walk_7 (Fr : Fn) : MS := (ifS (bnd (bnd (getV 5) fun x => bnd (pur (.fz (.at (.int 0)))) fun y => op2 sIx x y) fun x => bnd (pur (.fz (.at (.str "align")))) fun y => bnd (op2 sEq x y) toB) (doS (bnd (bnd (bnd (getV 5) fun x => bnd (pur (.fz (.at (.int 1)))) fun y => op2 sIx x y) fun x => bnd (bnd (getV 1) fun x => bnd (pur []) fun xs => pur (x :: xs)) fun xs => pur (x :: xs)) fun xs => callV [false, false] F_l_ceil xs) fun v => setS false 10 v) nxt)
def g_l_walk_8 (Fr : Fn) : MS := (doS (bnd (hasO 4) fun _ => bnd (bnd (bnd (bnd (bnd (getV 5) fun x => bnd (pur (.fz (.at (.int 0)))) fun y => op2 sIx x y) fun x => bnd (bnd (getV 2) fun x => bnd (bnd (getV 3) fun x => bnd (bnd (getV 1) fun x => bnd (bnd (getV 10) fun x => bnd (bnd (bnd (getV 5) fun x => bnd (pur (.fz (.at (.int 1)))) fun y => op2 sIx x y) fun x => bnd (pur []) fun xs => pur (x :: xs)) fun xs => pur (x :: xs)) fun xs => pur (x :: xs)) fun xs => pur (x :: xs)) fun xs => pur (x :: xs)) fun xs => pur (x :: xs)) tupV) fun x => bnd (pur []) fun xs => pur (x :: xs)) fun xs => apM 4 xs) fun _ => nxt)
def g_l_walk_9 (Fr : Fn) : MS := (doS (bnd (getV 10) fun x => bnd (bnd (bnd (getV 2) fun x => bnd (pur (.fz (.at (.int 1)))) fun y => op2 sPlus x y) fun x => bnd (pur []) fun xs => pur (x :: xs)) fun xs => pur (x :: xs)) fun xs => parS false false 1 2 xs)
def g_l_walk_10 (Fr : Fn) : MS := (ifS (bnd (bnd (getV 5) fun x => bnd (pur (.fz (.at (.int 0)))) fun y => op2 sIx x y) fun x => bnd (pur (.fz (.at (.str "rep")))) fun y => bnd (op2 sEq x y) toB) (seq (doS (bnd (bnd (getV 1) fun x => bnd (bnd (getV 2) fun x => bnd (pur []) fun xs => pur (x :: xs)) fun xs => pur (x :: xs)) tupV) fun v => setS false 6 v) (seq (doS (bnd (bnd (getV 5) fun x => bnd (pur (.fz (.at (.int 1)))) fun y => op2 sIx x y) fun x => bnd (pur []) fun xs => pur (x :: xs)) fun xs => forR1_ (tgN 7) (g_l_walk_1 Fr) xs) (g_l_walk_2 Fr))) (ifS (bnd (bnd (getV 5) fun x => bnd (pur (.fz (.at (.int 0)))) fun y => op2 sIx x y) fun x => bnd (pur (.fz (.at (.str "over")))) fun y => bnd (op2 sEq x y) toB) (seq (g_l_walk_3 Fr) (seq (g_l_walk_4 Fr) (g_l_walk_5 Fr))) (seq (doS (getV 1) fun v => setS false 10 v) (seq (g_l_walk_6 Fr) (seq (g_l_walk_7 Fr) (seq (g_l_walk_8 Fr) (g_l_walk_9 Fr)))))))
def g_l_walk (Fr : Fn) : MS := (seq (doS (getV 0) fun x => forM_ itemsL (tgN 5) (g_l_walk_10 Fr) x) (doS (bnd (bnd (getV 1) fun x => bnd (bnd (getV 2) fun x => bnd (pur []) fun xs => pur (x :: xs)) fun xs => pur (x :: xs)) tupV) fun v ρ => .rt v ρ))
def F_l_walk : Fn := recB 5 11 [4] g_l_walk 16
def g_l_rows : MS := (seq (doS (bnd (pur []) lstV) fun v => setS true 2 v) (seq (doS (bnd (bnd (getV 0) fun x => bnd (bnd (getV 1) fun x => bnd (bnd (pur (.fz (.at (.int 0)))) fun x => bnd (bnd (bnd (pur []) tupV) fun x => bnd (bnd (getV 2) fun x => bnd (pur []) fun xs => pur (x :: xs)) fun xs => pur (x :: xs)) fun xs => pur (x :: xs)) fun xs => pur (x :: xs)) fun xs => pur (x :: xs)) fun xs => callV [false, false, false, false, true] F_l_walk xs) fun _ => nxt) (doS (getV 2) fun v ρ => .rt v ρ)))
def F_l_rows : Fn := fnB 2 3 [] g_l_rows
def t_l_gaps_1 : M Bool := (bnd (getV 2) fun x => bnd (pur (.fz (.at (.str "align")))) fun y => bnd (op2 sEq x y) toB)
def x_l_gaps_2 : M EV := (bnd (getV 6) fun x => bnd (getV 5) fun y => op2 sSub x y)
def g_l_gaps : MS := (doS (bnd (bnd (bnd (bnd (bnd (getV 0) fun x => bnd (bnd (getV 1) fun x => bnd (pur []) fun xs => pur (x :: xs)) fun xs => pur (x :: xs)) fun xs => callV [false, false] F_l_rows xs) fun x => lcV itemsL (tgT [(tgN 2), (tgN 3), (tgN 4), (tgN 5), (tgN 6), (tgN 7)]) [2, 3, 4, 5, 6, 7] t_l_gaps_1 x_l_gaps_2 x) fun x => bnd (pur []) fun xs => pur (x :: xs)) fun xs => bltV sSum xs) fun v ρ => .rt v ρ)
def F_l_gaps : Fn := fnB 2 8 [] g_l_gaps
def g_require_layout : MS := (ifS (bnd (bnd (bnd (getV 0) fun x => isiV isi_Layout x) toB) fun b => pur (!b)) (fun _ => .no) nxt)
def F_require_layout : Fn := fnB 1 1 [] g_require_layout
def g_Layout_is_plain : MS := (doS (bnd (pur (.fz (.at (.str "{")))) fun x => bnd (bnd (getV 0) fun y => fldV 10 4 y) fun y => op2 (sIn true) x y) fun v ρ => .rt v ρ)
def F_Layout_is_plain : Fn := fnB 1 1 [] g_Layout_is_plain
def g_require_plain : MS := (seq (doS (bnd (bnd (getV 0) fun x => bnd (pur []) fun xs => pur (x :: xs)) fun xs => callV [false] F_require_layout xs) fun _ => nxt) (ifS (bnd (bnd (bnd (getV 0) fun x => bnd (chkI 10 x) fun _ => callV [false] (noex F_Layout_is_plain) [x]) toB) fun b => pur (!b)) (fun _ => .no) nxt))
def F_require_plain : Fn := fnB 1 1 [] g_require_plain
def g_require_start : MS := (ifS (orT (bnd (bnd (bnd (bnd (getV 0) fun x => bnd (pur []) fun xs => pur (x :: xs)) fun xs => callV [false] F_is_int xs) toB) fun b => pur (!b)) (bnd (getV 0) fun x => bnd (pur (.fz (.at (.int 0)))) fun y => bnd (op2 sLt x y) toB)) (fun _ => .no) nxt)
def F_require_start : Fn := fnB 1 1 [] g_require_start
def g_nodes_of : MS := (doS (bnd (getV 0) fun y => fldV 10 5 y) fun v ρ => .rt v ρ)
def F_nodes_of : Fn := fnB 1 1 [] g_nodes_of
def g_ceil_to : MS := (doS (bnd (bnd (bnd (bnd (getV 1) fun x => bnd (getV 0) fun y => op2 sPlus x y) fun x => bnd (pur (.fz (.at (.int 1)))) fun y => op2 sSub x y) fun x => bnd (getV 0) fun y => op2 sDiv x y) fun x => bnd (getV 0) fun y => op2 sMul x y) fun v ρ => .rt v ρ)
def F_ceil_to : Fn := fnB 2 2 [] g_ceil_to
def g_end_by : MS := (seq (doS (getV 0) fun v => unpS (tgT [(tgN 2), (tgN 3), (tgN 4)]) v) (doS (bnd (bnd (bnd (getV 2) fun x => bnd (bnd (bnd (getV 1) fun x => bnd (getV 3) fun y => op2 sPlus x y) fun x => bnd (pur []) fun xs => pur (x :: xs)) fun xs => pur (x :: xs)) fun xs => callV [false, false] F_ceil_to xs) fun x => bnd (getV 4) fun y => op2 sPlus x y) fun v ρ => .rt v ρ))
def F_end_by : Fn := fnB 2 5 [] g_end_by
def g_power_of : MS := (seq (ifS (bnd (getV 1) fun x => bnd (pur (.fz (.at (.int 0)))) fun y => bnd (op2 sEq x y) toB) (doS (pur (.fz (.tup [.at (.int 1), .at (.int 0), .at (.int 0)]))) fun v ρ => .rt v ρ) nxt) (seq (doS (getV 0) fun v => unpS (tgT [(tgN 2), (tgN 3), (tgN 4)]) v) (doS (bnd (bnd (getV 2) fun x => bnd (bnd (getV 3) fun x => bnd (bnd (bnd (getV 4) fun x => bnd (bnd (bnd (getV 1) fun x => bnd (pur (.fz (.at (.int 1)))) fun y => op2 sSub x y) fun x => bnd (bnd (bnd (getV 2) fun x => bnd (bnd (bnd (getV 3) fun x => bnd (getV 4) fun y => op2 sPlus x y) fun x => bnd (pur []) fun xs => pur (x :: xs)) fun xs => pur (x :: xs)) fun xs => callV [false, false] F_ceil_to xs) fun y => op2 sMul x y) fun y => op2 sPlus x y) fun x => bnd (pur []) fun xs => pur (x :: xs)) fun xs => pur (x :: xs)) fun xs => pur (x :: xs)) tupV) fun v ρ => .rt v ρ)))
def F_power_of : Fn := fnB 2 5 [] g_power_of
def g_reduced : MS := (doS (bnd (bnd (getV 0) fun x => bnd (bnd (bnd (getV 1) fun x => bnd (getV 0) fun y => op2 sMod x y) fun x => bnd (bnd (bnd (getV 2) fun x => bnd (bnd (bnd (getV 1) fun x => bnd (getV 0) fun y => op2 sDiv x y) fun x => bnd (getV 0) fun y => op2 sMul x y) fun y => op2 sPlus x y) fun x => bnd (pur []) fun xs => pur (x :: xs)) fun xs => pur (x :: xs)) fun xs => pur (x :: xs)) tupV) fun v ρ => .rt v ρ)
def F_reduced : Fn := fnB 3 3 [] g_reduced
def g_joined : MS := (seq (doS (getV 0) fun v => unpS (tgT [(tgN 2), (tgN 3), (tgN 4)]) v) (seq (ifS (bnd (bnd (getV 1) fun x => bnd (pur (.fz (.at (.int 0)))) fun y => op2 sIx x y) fun x => bnd (getV 2) fun y => bnd (op2 sLe x y) toB) (doS (bnd (bnd (getV 2) fun x => bnd (bnd (getV 3) fun x => bnd (bnd (bnd (bnd (bnd (bnd (getV 1) fun x => bnd (pur (.fz (.at (.int 0)))) fun y => op2 sIx x y) fun x => bnd (bnd (bnd (getV 4) fun x => bnd (bnd (getV 1) fun x => bnd (pur (.fz (.at (.int 1)))) fun y => op2 sIx x y) fun y => op2 sPlus x y) fun x => bnd (pur []) fun xs => pur (x :: xs)) fun xs => pur (x :: xs)) fun xs => callV [false, false] F_ceil_to xs) fun x => bnd (bnd (getV 1) fun x => bnd (pur (.fz (.at (.int 2)))) fun y => op2 sIx x y) fun y => op2 sPlus x y) fun x => bnd (pur []) fun xs => pur (x :: xs)) fun xs => pur (x :: xs)) fun xs => pur (x :: xs)) tupV) fun v ρ => .rt v ρ) nxt) (doS (bnd (bnd (bnd (getV 1) fun x => bnd (pur (.fz (.at (.int 0)))) fun y => op2 sIx x y) fun x => bnd (bnd (bnd (getV 3) fun x => bnd (bnd (bnd (getV 2) fun x => bnd (bnd (bnd (getV 4) fun x => bnd (bnd (getV 1) fun x => bnd (pur (.fz (.at (.int 1)))) fun y => op2 sIx x y) fun y => op2 sPlus x y) fun x => bnd (pur []) fun xs => pur (x :: xs)) fun xs => pur (x :: xs)) fun xs => callV [false, false] F_ceil_to xs) fun y => op2 sPlus x y) fun x => bnd (bnd (bnd (getV 1) fun x => bnd (pur (.fz (.at (.int 2)))) fun y => op2 sIx x y) fun x => bnd (pur []) fun xs => pur (x :: xs)) fun xs => pur (x :: xs)) fun xs => pur (x :: xs)) fun xs => callV [false, false, false] F_reduced xs) fun v ρ => .rt v ρ)))
def F_joined : Fn := fnB 2 5 [] g_joined
def g_node_triple (Fr : Fn) : MS := (seq (ifS (bnd (bnd (getV 0) fun x => bnd (pur (.fz (.at (.int 0)))) fun y => op2 sIx x y) fun x => bnd (pur (.fz (.at (.str "size")))) fun y => bnd (op2 sEq x y) toB) (doS (bnd (bnd (pur (.fz (.at (.int 1)))) fun x => bnd (bnd (pur (.fz (.at (.int 0)))) fun x => bnd (bnd (bnd (getV 0) fun x => bnd (pur (.fz (.at (.int 1)))) fun y => op2 sIx x y) fun x => bnd (pur []) fun xs => pur (x :: xs)) fun xs => pur (x :: xs)) fun xs => pur (x :: xs)) tupV) fun v ρ => .rt v ρ) nxt) (seq (ifS (bnd (bnd (getV 0) fun x => bnd (pur (.fz (.at (.int 0)))) fun y => op2 sIx x y) fun x => bnd (pur (.fz (.at (.str "align")))) fun y => bnd (op2 sEq x y) toB) (doS (bnd (bnd (bnd (getV 0) fun x => bnd (pur (.fz (.at (.int 1)))) fun y => op2 sIx x y) fun x => bnd (bnd (pur (.fz (.at (.int 0)))) fun x => bnd (bnd (pur (.fz (.at (.int 0)))) fun x => bnd (pur []) fun xs => pur (x :: xs)) fun xs => pur (x :: xs)) fun xs => pur (x :: xs)) tupV) fun v ρ => .rt v ρ) nxt) (doS (bnd (bnd (bnd (getV 0) fun x => bnd (pur (.fz (.at (.int 0)))) fun y => op2 sIx x y) fun x => bnd (pur (.fz (.at (.str "repeat")))) fun y => bnd (op2 sEq x y) toB) fun k => if k then (bnd (bnd (bnd (bnd (bnd (getV 0) fun x => bnd (pur (.fz (.at (.int 2)))) fun y => op2 sIx x y) fun x => bnd (pur []) fun xs => pur (x :: xs)) fun xs => callV [false] Fr xs) fun x => bnd (bnd (bnd (getV 0) fun x => bnd (pur (.fz (.at (.int 1)))) fun y => op2 sIx x y) fun x => bnd (pur []) fun xs => pur (x :: xs)) fun xs => pur (x :: xs)) fun xs => callV [false, false] F_power_of xs) else (pur (.fz (.tup [.at (.int 1), .at (.int 0), .at (.int 0)])))) fun v ρ => .rt v ρ)))
def F_node_triple_at (Fr : Fn) : Fn := fnB 1 1 [] (g_node_triple Fr)
def g_triple_of_1 (Fr : Fn) : MS := (doS (bnd (bnd (getV 1) fun x => bnd (bnd (bnd (bnd (getV 2) fun x => bnd (pur []) fun xs => pur (x :: xs)) fun xs => callV [false] (F_node_triple_at Fr) xs) fun x => bnd (pur []) fun xs => pur (x :: xs)) fun xs => pur (x :: xs)) fun xs => callV [false, false] F_joined xs) fun v => setS false 1 v)
def g_triple_of (Fr : Fn) : MS := (seq (doS (pur (.fz (.tup [.at (.int 1), .at (.int 0), .at (.int 0)]))) fun v => setS false 1 v) (seq (doS (getV 0) fun x => forM_ itemsT (tgN 2) (g_triple_of_1 Fr) x) (doS (getV 1) fun v ρ => .rt v ρ)))
def F_triple_of : Fn := recB 1 3 [] g_triple_of 16
def F_node_triple : Fn := F_node_triple_at F_triple_of
def g_end_from_1 (Fr : Fn) : MS := (ifS (bnd (bnd (getV 2) fun x => bnd (pur (.fz (.at (.int 0)))) fun y => op2 sIx x y) fun x => bnd (pur (.fz (.at (.str "overlay")))) fun y => bnd (op2 sEq x y) toB) (doS (bnd (bnd (bnd (bnd (bnd (getV 2) fun x => bnd (pur (.fz (.at (.int 1)))) fun y => op2 sIx x y) fun x => bnd (bnd (getV 1) fun x => bnd (pur []) fun xs => pur (x :: xs)) fun xs => pur (x :: xs)) fun xs => callV [false, false] Fr xs) fun x => bnd (bnd (bnd (bnd (bnd (getV 2) fun x => bnd (pur (.fz (.at (.int 2)))) fun y => op2 sIx x y) fun x => bnd (bnd (getV 1) fun x => bnd (pur []) fun xs => pur (x :: xs)) fun xs => pur (x :: xs)) fun xs => callV [false, false] Fr xs) fun x => bnd (pur []) fun xs => pur (x :: xs)) fun xs => pur (x :: xs)) fun xs => bltV sMax xs) fun v => setS false 1 v) (doS (bnd (bnd (bnd (bnd (getV 2) fun x => bnd (pur []) fun xs => pur (x :: xs)) fun xs => callV [false] F_node_triple xs) fun x => bnd (bnd (getV 1) fun x => bnd (pur []) fun xs => pur (x :: xs)) fun xs => pur (x :: xs)) fun xs => callV [false, false] F_end_by xs) fun v => setS false 1 v))
def g_end_from (Fr : Fn) : MS := (seq (doS (getV 0) fun x => forM_ itemsT (tgN 2) (g_end_from_1 Fr) x) (doS (getV 1) fun v ρ => .rt v ρ))
def F_end_from : Fn := recB 2 3 [] g_end_from 16
def g_bytes_of_1 (Fr : Fn) : MS := (ifS (bnd (bnd (getV 2) fun x => bnd (pur (.fz (.at (.int 0)))) fun y => op2 sIx x y) fun x => bnd (pur (.fz (.at (.str "size")))) fun y => bnd (op2 sEq x y) toB) (augS (sI fun i j => .int (i + j)) 1 (bnd (getV 2) fun x => bnd (pur (.fz (.at (.int 1)))) fun y => op2 sIx x y)) (ifS (bnd (bnd (getV 2) fun x => bnd (pur (.fz (.at (.int 0)))) fun y => op2 sIx x y) fun x => bnd (pur (.fz (.at (.str "repeat")))) fun y => bnd (op2 sEq x y) toB) (augS (sI fun i j => .int (i + j)) 1 (bnd (bnd (getV 2) fun x => bnd (pur (.fz (.at (.int 1)))) fun y => op2 sIx x y) fun x => bnd (bnd (bnd (bnd (getV 2) fun x => bnd (pur (.fz (.at (.int 2)))) fun y => op2 sIx x y) fun x => bnd (pur []) fun xs => pur (x :: xs)) fun xs => callV [false] Fr xs) fun y => op2 sMul x y)) nxt))
def g_bytes_of (Fr : Fn) : MS := (seq (doS (pur (.fz (.at (.int 0)))) fun v => setS false 1 v) (seq (doS (getV 0) fun x => forM_ itemsT (tgN 2) (g_bytes_of_1 Fr) x) (doS (getV 1) fun v ρ => .rt v ρ)))
def F_bytes_of : Fn := recB 1 3 [] g_bytes_of 16
def g_padding : MS := (seq (doS (bnd (bnd (getV 0) fun x => bnd (pur []) fun xs => pur (x :: xs)) fun xs => callV [false] F_require_plain xs) fun _ => nxt) (seq (doS (bnd (bnd (getV 1) fun x => bnd (pur []) fun xs => pur (x :: xs)) fun xs => callV [false] F_require_start xs) fun _ => nxt) (seq (doS (bnd (bnd (getV 0) fun x => bnd (pur []) fun xs => pur (x :: xs)) fun xs => callV [false] F_nodes_of xs) fun v => setS false 2 v) (doS (bnd (bnd (bnd (bnd (getV 2) fun x => bnd (bnd (getV 1) fun x => bnd (pur []) fun xs => pur (x :: xs)) fun xs => pur (x :: xs)) fun xs => callV [false, false] F_end_from xs) fun x => bnd (getV 1) fun y => op2 sSub x y) fun x => bnd (bnd (bnd (getV 2) fun x => bnd (pur []) fun xs => pur (x :: xs)) fun xs => callV [false] F_bytes_of xs) fun y => op2 sSub x y) fun v ρ => .rt v ρ))))
def F_padding : Fn := fnB 2 3 [] g_padding
def g_l_grab_1 (Fr : Fn) : MS := (doS (bnd (bnd (getV 3) fun x => bnd (bnd (pur (.fz (.at (.int 10)))) fun x => bnd (pur (.fz (.at (.int 30)))) fun y => op2 sPow x y) fun y => op2 sMul x y) fun x => bnd (bnd (bnd (getV 0) fun x => bnd (bnd (bnd (pur (.fz (.at (.int 10)))) fun x => bnd (pur (.fz (.at (.int 30)))) fun y => op2 sPow x y) fun x => bnd (pur []) fun xs => pur (x :: xs)) fun xs => pur (x :: xs)) fun xs => callV [true, false] Fr xs) fun y => op2 sPlus x y) fun v => setS false 3 v)
def g_l_grab (Fr : Fn) : MS := (seq (ifS (bnd (getV 1) fun x => bnd (bnd (pur (.fz (.at (.int 10)))) fun x => bnd (pur (.fz (.at (.int 30)))) fun y => op2 sPow x y) fun y => bnd (op2 sGt x y) toB) (seq (doS (pur (.fz (.at (.int 0)))) fun v => setS false 3 v) (seq (doS (bnd (bnd (pur (.fz (.at (.int 1)))) fun x => bnd (bnd (bnd (getV 1) fun x => op1 sBits x) fun x => bnd (pur (.fz (.at (.int 90)))) fun y => op2 sDiv x y) fun y => op2 sPlus x y) fun x => bnd (pur []) fun xs => pur (x :: xs)) fun xs => forR1_ (tgN 4) (g_l_grab_1 Fr) xs) (doS (bnd (getV 3) fun x => bnd (getV 1) fun y => op2 sMod x y) fun v ρ => .rt v ρ))) nxt) (seq (ifS (bnd (bnd (getV 0) fun x => bnd (pur (.fz (.at (.int 0)))) fun y => op2 sIx x y) fun x => bnd (pur (.fz (.at (.int 0)))) fun y => bnd (op2 sGt x y) toB) (seq (doS (bnd (bnd (getV 0) fun x => bnd (pur (.fz (.at (.int 0)))) fun y => op2 sIx x y) fun x => bnd (getV 1) fun y => op2 sMod x y) fun v => setS false 3 v) (seq (doS (bnd (bnd (getV 0) fun x => bnd (pur (.fz (.at (.int 0)))) fun y => op2 sIx x y) fun x => bnd (getV 1) fun y => op2 sDiv x y) fun v => doS (frz v) fun q => doS (getV 0) fun _ => doS (pur (.fz (.at (.int 0)))) fun ix => setIx 0 q ix) (doS (getV 3) fun v ρ => .rt v ρ))) nxt) (seq (doS (bnd (bnd (getV 0) fun x => bnd (pur (.fz (.at (.int 2)))) fun y => op2 sIx x y) fun x => bnd (pur (.fz (.at (.int 1)))) fun y => op2 sPlus x y) fun v => doS (frz v) fun q => doS (getV 0) fun _ => doS (pur (.fz (.at (.int 2)))) fun ix => setIx 0 q ix) (seq (doS (bnd (bnd (bnd (bnd (getV 0) fun x => bnd (pur (.fz (.at (.int 1)))) fun y => op2 sIx x y) fun x => bnd (bnd (pur (.fz (.at (.int 32452843)))) fun x => bnd (bnd (getV 0) fun x => bnd (pur (.fz (.at (.int 2)))) fun y => op2 sIx x y) fun y => op2 sMul x y) fun y => op2 sPlus x y) fun x => bnd (pur (.fz (.at (.int 3)))) fun y => op2 sPowX x y) fun x => bnd (bnd (bnd (pur (.fz (.at (.int 10)))) fun x => bnd (pur (.fz (.at (.int 42)))) fun y => op2 sPow x y) fun x => bnd (pur (.fz (.at (.int 63)))) fun y => op2 sPlus x y) fun y => op2 sMod x y) fun v => setS false 2 v) (seq (doS (bnd (bnd (bnd (getV 2) fun x => bnd (bnd (pur (.fz (.at (.int 86028121)))) fun x => bnd (bnd (getV 0) fun x => bnd (pur (.fz (.at (.int 2)))) fun y => op2 sIx x y) fun y => op2 sMul x y) fun y => op2 sPlus x y) fun x => bnd (pur (.fz (.at (.int 3)))) fun y => op2 sPowX x y) fun x => bnd (bnd (bnd (pur (.fz (.at (.int 10)))) fun x => bnd (pur (.fz (.at (.int 44)))) fun y => op2 sPow x y) fun x => bnd (pur (.fz (.at (.int 57)))) fun y => op2 sPlus x y) fun y => op2 sMod x y) fun v => setS false 2 v) (doS (bnd (bnd (getV 2) fun x => bnd (pur (.fz (.at (.int 655357)))) fun y => op2 sDiv x y) fun x => bnd (getV 1) fun y => op2 sMod x y) fun v ρ => .rt v ρ))))))
def F_l_grab : Fn := recB 2 5 [0] g_l_grab 2
def g_padding_range : MS := (seq (doS (bnd (bnd (getV 0) fun x => bnd (pur []) fun xs => pur (x :: xs)) fun xs => callV [false] F_require_plain xs) fun _ => nxt) (seq (doS (bnd (bnd (getV 0) fun x => bnd (pur []) fun xs => pur (x :: xs)) fun xs => callV [false] F_nodes_of xs) fun v => setS false 1 v) (seq (doS (bnd (bnd (getV 1) fun x => bnd (pur []) fun xs => pur (x :: xs)) fun xs => callV [false] F_triple_of xs) fun v => unpS (tgT [(tgN 3), (tgN 4), (tgN 5)]) v) (seq (doS (bnd (bnd (getV 4) fun x => bnd (getV 5) fun y => op2 sPlus x y) fun x => bnd (bnd (bnd (getV 1) fun x => bnd (pur []) fun xs => pur (x :: xs)) fun xs => callV [false] F_bytes_of xs) fun y => op2 sSub x y) fun v => setS false 2 v) (doS (bnd (bnd (getV 2) fun x => bnd (bnd (bnd (bnd (getV 2) fun x => bnd (getV 3) fun y => op2 sPlus x y) fun x => bnd (pur (.fz (.at (.int 1)))) fun y => op2 sSub x y) fun x => bnd (pur []) fun xs => pur (x :: xs)) fun xs => pur (x :: xs)) tupV) fun v ρ => .rt v ρ)))))
def F_padding_range : Fn := fnB 1 6 [] g_padding_range
def g_require_number : MS := (ifS (bnd (bnd (bnd (bnd (getV 0) fun x => bnd (pur []) fun xs => pur (x :: xs)) fun xs => callV [false] F_is_int xs) toB) fun b => pur (!b)) (fun _ => .no) nxt)
def F_require_number : Fn := fnB 1 1 [] g_require_number
def g_starts_with_padding : MS := (seq (doS (bnd (bnd (getV 0) fun x => bnd (pur []) fun xs => pur (x :: xs)) fun xs => callV [false] F_require_plain xs) fun _ => nxt) (seq (doS (bnd (bnd (getV 1) fun x => bnd (pur []) fun xs => pur (x :: xs)) fun xs => callV [false] F_require_number xs) fun _ => nxt) (seq (doS (bnd (bnd (getV 0) fun x => bnd (pur []) fun xs => pur (x :: xs)) fun xs => callV [false] F_padding_range xs) fun v => unpS (tgT [(tgN 2), (tgN 3)]) v) (seq (ifS (bnd (chainT sLe sLe (getV 2) (getV 1) (getV 3)) fun b => pur (!b)) (doS (pur (.fz (.at .non))) fun v ρ => .rt v ρ) nxt) (seq (doS (bnd (bnd (bnd (bnd (getV 0) fun x => bnd (pur []) fun xs => pur (x :: xs)) fun xs => callV [false] F_nodes_of xs) fun x => bnd (pur []) fun xs => pur (x :: xs)) fun xs => callV [false] F_triple_of xs) fun v => unpS (tgT [(tgN 4), (tgN 5), (tgN 6)]) v) (doS (bnd (bnd (bnd (bnd (bnd (getV 2) fun x => bnd (getV 1) fun y => op2 sSub x y) fun x => bnd (getV 5) fun y => op2 sSub x y) fun x => bnd (getV 4) fun y => op2 sMod x y) fun x => bnd (bnd (pur (.fz (.at (.int 1)))) fun x => bnd (bnd (getV 4) fun x => bnd (pur []) fun xs => pur (x :: xs)) fun xs => pur (x :: xs)) fun xs => pur (x :: xs)) tupV) fun v ρ => .rt v ρ))))))
def F_starts_with_padding : Fn := fnB 2 7 [] g_starts_with_padding
def g_l_in_arc : MS := (seq (doS (getV 0) fun v => unpS (tgT [(tgN 2), (tgN 3), (tgN 4)]) v) (doS (bnd (bnd (bnd (getV 1) fun x => bnd (getV 2) fun y => op2 sSub x y) fun x => bnd (getV 4) fun y => op2 sMod x y) fun x => bnd (getV 3) fun y => op2 sLt x y) fun v ρ => .rt v ρ))
def F_l_in_arc : Fn := fnB 2 5 [] g_l_in_arc
def x_l_right_1 : M EV := (bnd (bnd (getV 1) fun x => bnd (bnd (getV 5) fun x => bnd (pur []) fun xs => pur (x :: xs)) fun xs => pur (x :: xs)) fun xs => callV [false, false] F_l_gaps xs)
def g_l_right_2 : MS := (ifS (bnd (bnd (bnd (bnd (bnd (getV 2) fun x => bnd (bnd (getV 5) fun x => bnd (pur []) fun xs => pur (x :: xs)) fun xs => pur (x :: xs)) fun xs => callV [false, false] F_padding xs) fun x => bnd (pur []) fun xs => pur (x :: xs)) fun xs => bltV sReprD xs) fun x => bnd (bnd (bnd (bnd (getV 4) fun x => bnd (getV 5) fun y => op2 sIx x y) fun x => bnd (pur []) fun xs => pur (x :: xs)) fun xs => bltV sReprD xs) fun y => bnd (op2 sNe x y) toB) (doS (pur (.fz (.at (.bl false)))) fun v ρ => .rt v ρ) nxt)
def t_l_right_3 : M Bool := (bnd (bnd (bnd (getV 8) fun x => bnd (bnd (getV 5) fun x => bnd (pur []) fun xs => pur (x :: xs)) fun xs => pur (x :: xs)) fun xs => callV [false, false] F_l_in_arc xs) toB)
def t_l_right_4 : M Bool := (bnd (bnd (getV 4) fun x => bnd (getV 5) fun y => op2 sIx x y) fun x => bnd (getV 7) fun y => bnd (op2 sEq x y) toB)
def g_l_right_5 : MS := (ifS (bnd (getV 9) fun x => bnd (bnd (bnd (getV 3) fun x => bnd (pur []) fun xs => pur (x :: xs)) fun xs => lcR1 (tgN 5) [5] t_l_right_4 (getV 5) xs) fun y => bnd (op2 sNe x y) toB) (doS (pur (.fz (.at (.bl false)))) fun v ρ => .rt v ρ) nxt)
def g_l_right_6 : MS := (doS (bnd (bnd (getV 2) fun x => bnd (bnd (getV 7) fun x => bnd (pur []) fun xs => pur (x :: xs)) fun xs => pur (x :: xs)) fun xs => callV [false, false] F_starts_with_padding xs) fun v => setS false 8 v)
def g_l_right_7 : MS := (ifS (bnd (getV 7) fun x => bnd (getV 4) fun y => bnd (op2 (sIn true) x y) toB) (ifS (bnd (getV 8) fun x => bnd (pur (.fz (.at .non))) fun y => bnd (op2 sNotN x y) toB) (doS (pur (.fz (.at (.bl false)))) fun v ρ => .rt v ρ) nxt) (ifS (orT (bnd (bnd (bnd (getV 8) fun x => isiV isi_tuple x) toB) fun b => pur (!b)) (orT (bnd (bnd (getV 8) fun x => bnd (bnd (pur (.fz (.at (.int 1)))) toI) fun l => bnd (pur none) fun h => bnd (deref x) fun p => lift (slVT p l h)) fun x => bnd (bnd (bnd (pur (.fz (.at (.int 1)))) fun x => bnd (bnd (getV 3) fun x => bnd (pur []) fun xs => pur (x :: xs)) fun xs => pur (x :: xs)) tupV) fun y => bnd (op2 sNe x y) toB) (bnd (chainT sLe sLt (pur (.fz (.at (.int 0)))) (bnd (getV 8) fun x => bnd (pur (.fz (.at (.int 0)))) fun y => op2 sIx x y) (getV 3)) fun b => pur (!b)))) (doS (pur (.fz (.at (.bl false)))) fun v ρ => .rt v ρ) (seq (doS (bnd (bnd (getV 3) fun x => bnd (pur []) fun xs => pur (x :: xs)) fun xs => lcR1 (tgN 5) [5] t_l_right_3 (getV 5) xs) fun v => setS false 9 v) g_l_right_5)))
def g_l_right_8 : MS := (seq g_l_right_6 g_l_right_7)
def g_l_right_9 : MS := (doS (bnd (bnd (bnd (pur (.fz (.at (.str " ")))) fun x => bnd (isS x) fun _ => bnd (bnd (bnd (getV 1) fun x => bnd (pur []) fun xs => pur (x :: xs)) fun xs => callV [false] F_l_words xs) fun y => op2 sJoin x y) fun x => bnd (pur []) fun xs => pur (x :: xs)) fun xs => makeV 10 [false] F_Layout_init xs) fun v => setS false 2 v)
def g_l_right_10 : MS := (doS (bnd (bnd (getV 3) fun x => bnd (bnd (bnd (getV 0) fun x => bnd (bnd (bnd (pur (.fz (.at (.int 10)))) fun x => bnd (pur (.fz (.at (.int 30)))) fun y => op2 sPow x y) fun x => bnd (pur []) fun xs => pur (x :: xs)) fun xs => pur (x :: xs)) fun xs => callV [true, false] F_l_grab xs) fun y => op2 sMul x y) fun x => bnd (bnd (bnd (getV 0) fun x => bnd (bnd (getV 3) fun x => bnd (pur []) fun xs => pur (x :: xs)) fun xs => pur (x :: xs)) fun xs => callV [true, false] F_l_grab xs) fun y => op2 sPlus x y) fun v => setS false 6 v)
def g_l_right_11 : MS := (ifS (bnd (bnd (bnd (getV 2) fun x => bnd (bnd (getV 6) fun x => bnd (pur []) fun xs => pur (x :: xs)) fun xs => pur (x :: xs)) fun xs => callV [false, false] F_padding xs) fun x => bnd (bnd (getV 4) fun x => bnd (bnd (getV 6) fun x => bnd (getV 3) fun y => op2 sMod x y) fun y => op2 sIx x y) fun y => bnd (op2 sNe x y) toB) (doS (pur (.fz (.at (.bl false)))) fun v ρ => .rt v ρ) nxt)
def g_l_right_12 : MS := (ifS (bnd (bnd (bnd (bnd (bnd (bnd (bnd (bnd (getV 2) fun x => bnd (pur []) fun xs => pur (x :: xs)) fun xs => callV [false] F_padding_range xs) fun x => bnd (pur []) fun xs => pur (x :: xs)) lstV) fun x => bnd (pur (.fz (.at (.int 2)))) fun y => op2 sRep x y) fun x => bnd (pur []) fun xs => pur (x :: xs)) fun xs => bltV sReprD xs) fun x => bnd (bnd (bnd (bnd (bnd (bnd (bnd (bnd (bnd (bnd (getV 4) fun x => bnd (pur []) fun xs => pur (x :: xs)) fun xs => bltV sMinL xs) fun x => bnd (bnd (bnd (bnd (getV 4) fun x => bnd (pur []) fun xs => pur (x :: xs)) fun xs => bltV sMaxL xs) fun x => bnd (pur []) fun xs => pur (x :: xs)) fun xs => pur (x :: xs)) tupV) fun x => bnd (pur []) fun xs => pur (x :: xs)) lstV) fun x => bnd (pur (.fz (.at (.int 2)))) fun y => op2 sRep x y) fun x => bnd (pur []) fun xs => pur (x :: xs)) fun xs => bltV sReprD xs) fun y => bnd (op2 sNe x y) toB) (doS (pur (.fz (.at (.bl false)))) fun v ρ => .rt v ρ) nxt)
def g_l_right_13 : MS := (ifS (bnd (bnd (bnd (getV 4) fun x => bnd (pur []) fun xs => pur (x :: xs)) fun xs => bltV sSorted xs) fun x => bnd (bnd (bnd (bnd (getV 4) fun x => bnd (pur []) fun xs => pur (x :: xs)) fun xs => bltV sMinL xs) fun x => bnd (bnd (bnd (bnd (getV 4) fun x => bnd (pur []) fun xs => pur (x :: xs)) fun xs => bltV sMaxL xs) fun x => bnd (pur (.fz (.at (.int 1)))) fun y => op2 sPlus x y) fun y => op2 sRgL x y) fun y => bnd (op2 sNe x y) toB) (doS (pur (.fz (.at (.bl false)))) fun v ρ => .rt v ρ) nxt)
def g_l_right_14 : MS := (doS (bnd (bnd (bnd (bnd (bnd (bnd (getV 4) fun x => bnd (pur []) fun xs => pur (x :: xs)) fun xs => bltV sMinL xs) fun x => bnd (pur (.fz (.at (.int 1)))) fun y => op2 sSub x y) fun x => bnd (bnd (bnd (bnd (bnd (getV 4) fun x => bnd (pur []) fun xs => pur (x :: xs)) fun xs => bltV sMaxL xs) fun x => bnd (pur (.fz (.at (.int 1)))) fun y => op2 sPlus x y) fun x => bnd (bnd (bnd (pur (.fz (.at (.int 1)))) fun x => op1 sNeg x) fun x => bnd (bnd (bnd (pur (.fz (.at (.int 10)))) fun x => bnd (pur (.fz (.at (.int 30)))) fun y => op2 sPow x y) fun x => bnd (bnd (bnd (pur (.fz (.at (.int 0)))) fun x => bnd (bnd (pur (.fz (.at (.int 10)))) fun x => bnd (pur (.fz (.at (.int 60)))) fun y => op2 sPow x y) fun y => op2 sSub x y) fun x => bnd (pur []) fun xs => pur (x :: xs)) fun xs => pur (x :: xs)) fun xs => pur (x :: xs)) fun xs => pur (x :: xs)) fun xs => pur (x :: xs)) lstV) fun x => bnd (bnd (bnd (getV 4) fun x => bnd (pur []) fun xs => pur (x :: xs)) fun xs => bltV sSrtSet xs) fun y => op2 sPlus x y) fun x => forM_ itemsL (tgN 7) g_l_right_8 x)
def g_l_right : MS := (seq g_l_right_9 (seq (doS (bnd (getV 2) fun x => bnd (chkI 10 x) fun _ => callV [false] (noex F_Layout_alignment) [x]) fun v => setS false 3 v) (seq (doS (bnd (bnd (getV 3) fun x => bnd (pur []) fun xs => pur (x :: xs)) fun xs => lcR1 (tgN 5) [5] (pur true) x_l_right_1 xs) fun v => setS false 4 v) (seq (doS (bnd (getV 3) fun x => bnd (pur []) fun xs => pur (x :: xs)) fun xs => forR1_ (tgN 5) g_l_right_2 xs) (seq g_l_right_10 (seq g_l_right_11 (seq g_l_right_12 (seq g_l_right_13 (seq g_l_right_14 (doS (pur (.fz (.at (.bl true)))) fun v ρ => .rt v ρ))))))))))
def F_l_right : Fn := fnB 2 10 [0] g_l_right
def g_l_power_1 : MS := (doS (bnd (pur (.fz (.at (.int 2)))) fun x => bnd (getV 2) fun y => op2 sMul x y) fun v => setS false 2 v)
def g_l_power : MS := (seq (doS (pur (.fz (.at (.int 2)))) fun v => setS false 2 v) (seq (doS (bnd (bnd (bnd (getV 0) fun x => bnd (bnd (getV 1) fun x => bnd (pur []) fun xs => pur (x :: xs)) fun xs => pur (x :: xs)) fun xs => callV [true, false] F_l_grab xs) fun x => bnd (pur []) fun xs => pur (x :: xs)) fun xs => forR1_ (tgN 3) g_l_power_1 xs) (doS (getV 2) fun v ρ => .rt v ρ)))
def F_l_power : Fn := fnB 2 4 [0] g_l_power
def g_l_count_1 (Fr : Fn) : MS := (ifS (bnd (bnd (getV 2) fun x => bnd (pur (.fz (.at (.int 0)))) fun y => op2 sIx x y) fun x => bnd (pur (.fz (.at (.str "rep")))) fun y => bnd (op2 sEq x y) toB) (doS (bnd (getV 1) fun x => bnd (bnd (bnd (getV 2) fun x => bnd (pur (.fz (.at (.int 1)))) fun y => op2 sIx x y) fun x => bnd (bnd (bnd (bnd (getV 2) fun x => bnd (pur (.fz (.at (.int 2)))) fun y => op2 sIx x y) fun x => bnd (pur []) fun xs => pur (x :: xs)) fun xs => callV [false] Fr xs) fun y => op2 sMul x y) fun y => op2 sPlus x y) fun v => setS false 1 v) (ifS (bnd (bnd (getV 2) fun x => bnd (pur (.fz (.at (.int 0)))) fun y => op2 sIx x y) fun x => bnd (pur (.fz (.at (.str "over")))) fun y => bnd (op2 sEq x y) toB) (doS (bnd (bnd (getV 1) fun x => bnd (bnd (bnd (bnd (getV 2) fun x => bnd (pur (.fz (.at (.int 1)))) fun y => op2 sIx x y) fun x => bnd (pur []) fun xs => pur (x :: xs)) fun xs => callV [false] Fr xs) fun y => op2 sPlus x y) fun x => bnd (bnd (bnd (bnd (getV 2) fun x => bnd (pur (.fz (.at (.int 2)))) fun y => op2 sIx x y) fun x => bnd (pur []) fun xs => pur (x :: xs)) fun xs => callV [false] Fr xs) fun y => op2 sPlus x y) fun v => setS false 1 v) (doS (bnd (getV 1) fun x => bnd (pur (.fz (.at (.int 1)))) fun y => op2 sPlus x y) fun v => setS false 1 v)))
def g_l_count (Fr : Fn) : MS := (seq (doS (pur (.fz (.at (.int 0)))) fun v => setS false 1 v) (seq (doS (getV 0) fun x => forM_ itemsL (tgN 2) (g_l_count_1 Fr) x) (doS (getV 1) fun v ρ => .rt v ρ)))
def F_l_count : Fn := recB 1 3 [] g_l_count 16
def g_l_nodes_1 (Fr : Fn) : MS := (doS (bnd (pur (.fz (.at (.int 2)))) fun x => bnd (bnd (bnd (getV 0) fun x => bnd (bnd (pur (.fz (.at (.int 4)))) fun x => bnd (pur []) fun xs => pur (x :: xs)) fun xs => pur (x :: xs)) fun xs => callV [true, false] F_l_grab xs) fun y => op2 sPlus x y) fun v => setS false 11 v)
def g_l_nodes_2 (Fr : Fn) : MS := (doS (bnd (bnd (getV 0) fun x => bnd (bnd (bnd (bnd (getV 1) fun x => bnd (getV 7) fun y => op2 sSub x y) fun x => bnd (getV 11) fun y => op2 sDiv x y) fun x => bnd (bnd (bnd (getV 2) fun x => bnd (pur (.fz (.at (.int 1)))) fun y => op2 sSub x y) fun x => bnd (bnd (getV 3) fun x => bnd (bnd (getV 4) fun x => bnd (pur []) fun xs => pur (x :: xs)) fun xs => pur (x :: xs)) fun xs => pur (x :: xs)) fun xs => pur (x :: xs)) fun xs => pur (x :: xs)) fun xs => callV [true, false, false, true, false] Fr xs) fun v => setS false 12 v)
def g_l_nodes_3 (Fr : Fn) : MS := (ifS (bnd (getV 12) fun x => bnd (bnd (pur []) lstV) fun y => bnd (op2 sNe x y) toB) (doS (bnd (bnd (pur (.fz (.at (.str "rep")))) fun x => bnd (bnd (getV 11) fun x => bnd (bnd (getV 12) fun x => bnd (pur []) fun xs => pur (x :: xs)) fun xs => pur (x :: xs)) fun xs => pur (x :: xs)) tupV) fun v => setS false 9 v) nxt)
def g_l_nodes_4 (Fr : Fn) : MS := (doS (bnd (bnd (getV 0) fun x => bnd (bnd (pur (.fz (.at (.int 7)))) fun x => bnd (pur []) fun xs => pur (x :: xs)) fun xs => pur (x :: xs)) fun xs => callV [true, false] F_l_grab xs) fun v => setS false 8 v)
def g_l_nodes_5 (Fr : Fn) : MS := (doS (bnd (bnd (pur (.fz (.at (.str "size")))) fun x => bnd (bnd (bnd (bnd (bnd (bnd (bnd (getV 0) fun x => bnd (bnd (bnd (getV 4) fun x => bnd (pur (.fz (.at (.int 1)))) fun y => op2 sIx x y) fun x => bnd (pur []) fun xs => pur (x :: xs)) fun xs => pur (x :: xs)) fun xs => callV [true, false] F_l_grab xs) fun x => bnd (bnd (bnd (bnd (getV 0) fun x => bnd (bnd (pur (.fz (.at (.int 5)))) fun x => bnd (pur []) fun xs => pur (x :: xs)) fun xs => pur (x :: xs)) fun xs => callV [true, false] F_l_grab xs) fun x => bnd (pur []) fun xs => pur (x :: xs)) fun xs => pur (x :: xs)) lstV) fun x => bnd (bnd (bnd (getV 0) fun x => bnd (bnd (pur (.fz (.at (.int 2)))) fun x => bnd (pur []) fun xs => pur (x :: xs)) fun xs => pur (x :: xs)) fun xs => callV [true, false] F_l_grab xs) fun y => op2 sIx x y) fun x => bnd (pur []) fun xs => pur (x :: xs)) fun xs => pur (x :: xs)) tupV) fun v => setS false 9 v)
def g_l_nodes_6 (Fr : Fn) : MS := (ifS (andT (bnd (getV 8) fun x => bnd (pur (.fz (.at (.int 0)))) fun y => bnd (op2 sEq x y) toB) (andT (bnd (getV 2) fun x => bnd (pur (.fz (.at (.int 0)))) fun y => bnd (op2 sGt x y) toB) (bnd (bnd (getV 1) fun x => bnd (getV 7) fun y => op2 sSub x y) fun x => bnd (pur (.fz (.at (.int 5)))) fun y => bnd (op2 sGt x y) toB))) (seq (g_l_nodes_1 Fr) (seq (g_l_nodes_2 Fr) (g_l_nodes_3 Fr))) (ifS (bnd (getV 8) fun x => bnd (pur (.fz (.at (.int 3)))) fun y => bnd (op2 sLt x y) toB) (doS (bnd (bnd (pur (.fz (.at (.str "align")))) fun x => bnd (bnd (bnd (bnd (getV 0) fun x => bnd (bnd (bnd (getV 4) fun x => bnd (pur (.fz (.at (.int 0)))) fun y => op2 sIx x y) fun x => bnd (pur []) fun xs => pur (x :: xs)) fun xs => pur (x :: xs)) fun xs => callV [true, false] F_l_power xs) fun x => bnd (pur []) fun xs => pur (x :: xs)) fun xs => pur (x :: xs)) tupV) fun v => setS false 9 v) (ifS (andT (bnd (getV 8) fun x => bnd (pur (.fz (.at (.int 5)))) fun y => bnd (op2 sLt x y) toB) (bnd (getV 3) fun x => bnd (bnd (pur []) lstV) fun y => bnd (op2 sNe x y) toB)) (doS (bnd (bnd (pur (.fz (.at (.str "label")))) fun x => bnd (bnd (bnd (hasO 3) fun _ => bnd (bnd (bnd (bnd (getV 0) fun x => bnd (bnd (bnd (bnd (getV 3) fun x => bnd (pur []) fun xs => pur (x :: xs)) fun xs => bltV sLen xs) fun x => bnd (pur []) fun xs => pur (x :: xs)) fun xs => pur (x :: xs)) fun xs => callV [true, false] F_l_grab xs) fun x => bnd (pur []) fun xs => pur (x :: xs)) fun xs => popAtM 3 xs) fun x => bnd (pur []) fun xs => pur (x :: xs)) fun xs => pur (x :: xs)) tupV) fun v => setS false 9 v) nxt)))
def g_l_nodes_7 (Fr : Fn) : MS := (ifS (bnd (bnd (getV 7) fun x => bnd (getV 10) fun y => op2 sPlus x y) fun x => bnd (getV 1) fun y => bnd (op2 sLe x y) toB) (doS (bnd (bnd (getV 6) fun x => bnd (bnd (bnd (getV 9) fun x => bnd (pur []) fun xs => pur (x :: xs)) lstV) fun y => op2 sPlus x y) fun x => bnd (bnd (bnd (getV 7) fun x => bnd (getV 10) fun y => op2 sPlus x y) fun x => bnd (pur []) fun xs => pur (x :: xs)) fun xs => pur (x :: xs)) fun xs => parS false false 6 7 xs) nxt)
def g_l_nodes_8 (Fr : Fn) : MS := (seq (g_l_nodes_4 Fr) (seq (g_l_nodes_5 Fr) (seq (g_l_nodes_6 Fr) (seq (doS (bnd (bnd (bnd (bnd (getV 9) fun x => bnd (pur []) fun xs => pur (x :: xs)) lstV) fun x => bnd (pur []) fun xs => pur (x :: xs)) fun xs => callV [false] F_l_count xs) fun v => setS false 10 v) (g_l_nodes_7 Fr)))))
def g_l_nodes_9 (Fr : Fn) : MS := (doS (bnd (bnd (pur (.fz (.at (.int 1)))) fun x => bnd (bnd (bnd (getV 0) fun x => bnd (bnd (pur (.fz (.at (.int 12)))) fun x => bnd (pur []) fun xs => pur (x :: xs)) fun xs => pur (x :: xs)) fun xs => callV [true, false] F_l_grab xs) fun y => op2 sPlus x y) fun x => bnd (pur []) fun xs => pur (x :: xs)) fun xs => forR1_ (tgN 5) (g_l_nodes_8 Fr) xs)
def g_l_nodes (Fr : Fn) : MS := (seq (doS (bnd (bnd (pur []) lstV) fun x => bnd (bnd (pur (.fz (.at (.int 0)))) fun x => bnd (pur []) fun xs => pur (x :: xs)) fun xs => pur (x :: xs)) fun xs => parS false false 6 7 xs) (seq (g_l_nodes_9 Fr) (doS (getV 6) fun v ρ => .rt v ρ)))
def F_l_nodes : Fn := recB 5 13 [0, 3] g_l_nodes 8
def g_l_names : MS := (doS (bnd (bnd (pur (.fz (.at (.str "a")))) fun x => bnd (bnd (pur (.fz (.at (.str "b")))) fun x => bnd (bnd (pur (.fz (.at (.str "ab")))) fun x => bnd (bnd (pur (.fz (.at (.str "ba")))) fun x => bnd (bnd (pur (.fz (.at (.str "x")))) fun x => bnd (bnd (pur (.fz (.at (.str "y")))) fun x => bnd (bnd (pur (.fz (.at (.str "xx")))) fun x => bnd (bnd (pur (.fz (.at (.str "abcdefgh")))) fun x => bnd (bnd (pur (.fz (.at (.str "abcdefgi")))) fun x => bnd (bnd (pur (.fz (.at (.str "z")))) fun x => bnd (bnd (pur (.fz (.at (.str "rec")))) fun x => bnd (bnd (pur (.fz (.at (.str "size")))) fun x => bnd (bnd (pur (.fz (.at (.str "end")))) fun x => bnd (bnd (pur (.fz (.at (.str "q")))) fun x => bnd (bnd (pur (.fz (.at (.str "zz")))) fun x => bnd (bnd (pur (.fz (.at (.str "aa")))) fun x => bnd (pur []) fun xs => pur (x :: xs)) fun xs => pur (x :: xs)) fun xs => pur (x :: xs)) fun xs => pur (x :: xs)) fun xs => pur (x :: xs)) fun xs => pur (x :: xs)) fun xs => pur (x :: xs)) fun xs => pur (x :: xs)) fun xs => pur (x :: xs)) fun xs => pur (x :: xs)) fun xs => pur (x :: xs)) fun xs => pur (x :: xs)) fun xs => pur (x :: xs)) fun xs => pur (x :: xs)) fun xs => pur (x :: xs)) fun xs => pur (x :: xs)) lstV) fun v ρ => .rt v ρ)
def F_l_names : Fn := fnB 0 0 [] g_l_names
def g_l_wide_1 : MS := (doS (bnd (bnd (pur (.fz (.at (.str "z")))) fun x => bnd (bnd (getV 3) fun x => bnd (bnd (getV 2) fun x => bnd (pur (.fz (.at (.int 26)))) fun y => op2 sDiv x y) fun y => op2 sIx x y) fun y => op2 sPlus x y) fun x => bnd (bnd (getV 3) fun x => bnd (bnd (getV 2) fun x => bnd (pur (.fz (.at (.int 26)))) fun y => op2 sMod x y) fun y => op2 sIx x y) fun y => op2 sPlus x y) fun v => setS false 5 v)
def g_l_wide_2 : MS := (doS (bnd (bnd (bnd (bnd (pur (.fz (.at (.str "label")))) fun x => bnd (bnd (getV 5) fun x => bnd (pur []) fun xs => pur (x :: xs)) fun xs => pur (x :: xs)) tupV) fun x => bnd (bnd (bnd (bnd (pur (.fz (.at (.str "size")))) fun x => bnd (bnd (bnd (bnd (getV 0) fun x => bnd (bnd (bnd (getV 1) fun x => bnd (pur (.fz (.at (.int 1)))) fun y => op2 sIx x y) fun x => bnd (pur []) fun xs => pur (x :: xs)) fun xs => pur (x :: xs)) fun xs => callV [true, false] F_l_grab xs) fun x => bnd (pur []) fun xs => pur (x :: xs)) fun xs => pur (x :: xs)) tupV) fun x => bnd (bnd (bnd (bnd (pur (.fz (.at (.str "align")))) fun x => bnd (bnd (bnd (bnd (getV 0) fun x => bnd (bnd (bnd (getV 1) fun x => bnd (pur (.fz (.at (.int 0)))) fun y => op2 sIx x y) fun x => bnd (pur []) fun xs => pur (x :: xs)) fun xs => pur (x :: xs)) fun xs => callV [true, false] F_l_power xs) fun x => bnd (pur []) fun xs => pur (x :: xs)) fun xs => pur (x :: xs)) tupV) fun x => bnd (pur []) fun xs => pur (x :: xs)) fun xs => pur (x :: xs)) fun xs => pur (x :: xs)) lstV) fun v => setS false 6 v)
def g_l_wide_3 : MS := (doS (bnd (getV 4) fun x => bnd (bnd (bnd (bnd (getV 2) fun x => bnd (pur (.fz (.at (.int 10)))) fun y => op2 sMod x y) fun x => bnd (pur (.fz (.at (.int 9)))) fun y => bnd (op2 sEq x y) toB) fun k => if k then (bnd (bnd (bnd (bnd (pur (.fz (.at (.str "rep")))) fun x => bnd (bnd (bnd (pur (.fz (.at (.int 2)))) fun x => bnd (bnd (bnd (getV 0) fun x => bnd (bnd (pur (.fz (.at (.int 3)))) fun x => bnd (pur []) fun xs => pur (x :: xs)) fun xs => pur (x :: xs)) fun xs => callV [true, false] F_l_grab xs) fun y => op2 sPlus x y) fun x => bnd (bnd (getV 6) fun x => bnd (pur []) fun xs => pur (x :: xs)) fun xs => pur (x :: xs)) fun xs => pur (x :: xs)) tupV) fun x => bnd (pur []) fun xs => pur (x :: xs)) lstV) else (getV 6)) fun y => op2 sPlus x y) fun v => setS false 4 v)
def g_l_wide_4 : MS := (seq g_l_wide_1 (seq g_l_wide_2 g_l_wide_3))
def x_l_wide_5 : M EV := (bnd (bnd (pur (.fz (.at (.str "size")))) fun x => bnd (bnd (bnd (bnd (getV 0) fun x => bnd (bnd (pur (.fz (.at (.int 5)))) fun x => bnd (pur []) fun xs => pur (x :: xs)) fun xs => pur (x :: xs)) fun xs => callV [true, false] F_l_grab xs) fun x => bnd (pur []) fun xs => pur (x :: xs)) fun xs => pur (x :: xs)) tupV)
def g_l_wide_6 : MS := (doS (bnd (pur (.fz (.at (.str "abcdefghijklmnopqrstuvwxyz")))) fun x => bnd (bnd (bnd (pur []) lstV) fun x => bnd (pur []) fun xs => pur (x :: xs)) fun xs => pur (x :: xs)) fun xs => parS false false 3 4 xs)
def g_l_wide_7 : MS := (doS (bnd (getV 4) fun x => bnd (bnd (bnd (bnd (pur (.fz (.at (.int 400)))) fun x => bnd (bnd (bnd (bnd (bnd (getV 4) fun x => bnd (pur []) fun xs => pur (x :: xs)) fun xs => callV [false] F_l_words xs) fun x => bnd (pur []) fun xs => pur (x :: xs)) fun xs => bltV sLen xs) fun y => op2 sSub x y) fun x => bnd (pur []) fun xs => pur (x :: xs)) fun xs => lcR1 (tgN 2) [2] (pur true) x_l_wide_5 xs) fun y => op2 sPlus x y) fun v ρ => .rt v ρ)
def g_l_wide : MS := (seq g_l_wide_6 (seq (doS (bnd (pur (.fz (.at (.int 100)))) fun x => bnd (pur []) fun xs => pur (x :: xs)) fun xs => forR1_ (tgN 2) g_l_wide_4 xs) g_l_wide_7))
def F_l_wide : Fn := fnB 2 7 [0] g_l_wide
def g_law_1 : MS := (ifS (bnd (bnd (bnd (bnd (getV 2) fun x => bnd (bnd (bnd (bnd (getV 2) fun x => bnd (bnd (getV 5) fun x => bnd (bnd (pur (.fz (.at (.int 3)))) fun x => bnd (bnd (bnd (pur []) fun xs => callV [] F_l_names xs) fun x => bnd (bnd (bnd (bnd (bnd (bnd (bnd (pur (.fz (.at (.int 6)))) fun x => bnd (bnd (pur (.fz (.at (.int 3)))) fun x => bnd (pur []) fun xs => pur (x :: xs)) fun xs => pur (x :: xs)) lstV) fun x => bnd (bnd (bnd (getV 2) fun x => bnd (bnd (pur (.fz (.at (.int 2)))) fun x => bnd (pur []) fun xs => pur (x :: xs)) fun xs => pur (x :: xs)) fun xs => callV [true, false] F_l_grab xs) fun y => op2 sIx x y) fun x => bnd (bnd (pur (.fz (.at (.int 40)))) fun x => bnd (pur []) fun xs => pur (x :: xs)) fun xs => pur (x :: xs)) tupV) fun x => bnd (pur []) fun xs => pur (x :: xs)) fun xs => pur (x :: xs)) fun xs => pur (x :: xs)) fun xs => pur (x :: xs)) fun xs => pur (x :: xs)) fun xs => callV [true, false, false, true, false] F_l_nodes xs) fun x => bnd (pur []) fun xs => pur (x :: xs)) fun xs => pur (x :: xs)) fun xs => callV [true, false] F_l_right xs) toB) fun b => pur (!b)) (doS (pur (.fz (.at (.bl false)))) fun v ρ => .rt v ρ) nxt)
def g_law_2 : MS := (doS (bnd (bnd (pur (.fz (.at (.int 150)))) fun x => bnd (bnd (pur (.fz (.at (.int 20)))) fun x => bnd (bnd (pur (.fz (.at (.int 6)))) fun x => bnd (pur []) fun xs => pur (x :: xs)) fun xs => pur (x :: xs)) fun xs => pur (x :: xs)) lstV) fun x => forM_ itemsL (tgN 5) g_law_1 x)
def g_law_3 : MS := (seq (doS (bnd (bnd (getV 0) fun x => bnd (bnd (getV 1) fun x => bnd (pur []) fun xs => pur (x :: xs)) fun xs => pur (x :: xs)) fun xs => callV [false, false] F_l_silo xs) fun v => setS true 2 v) g_law_2)
def g_law_4 : MS := (doS (bnd (bnd (bnd (pur (.fz (.at (.int 1)))) fun x => bnd (bnd (bnd (bnd (pur (.fz (.at (.int 6)))) fun x => bnd (bnd (bnd (bnd (getV 0) fun x => bnd (pur []) fun xs => pur (x :: xs)) fun xs => bltV sLen xs) fun x => bnd (pur []) fun xs => pur (x :: xs)) fun xs => pur (x :: xs)) fun xs => bltV sMin xs) fun x => bnd (pur []) fun xs => pur (x :: xs)) fun xs => pur (x :: xs)) fun xs => bltV sMax xs) fun x => bnd (pur []) fun xs => pur (x :: xs)) fun xs => forR1_ (tgN 1) g_law_3 xs)
def g_law_5 : MS := (doS (bnd (bnd (getV 0) fun x => bnd (bnd (pur (.fz (.at (.int 0)))) fun x => bnd (pur []) fun xs => pur (x :: xs)) fun xs => pur (x :: xs)) fun xs => callV [false, false] F_l_silo xs) fun v => setS true 2 v)
def g_law_6 : MS := (ifS (bnd (bnd (bnd (bnd (getV 2) fun x => bnd (bnd (bnd (bnd (getV 2) fun x => bnd (bnd (bnd (bnd (pur (.fz (.at (.int 3)))) fun x => bnd (bnd (pur (.fz (.at (.int 40)))) fun x => bnd (pur []) fun xs => pur (x :: xs)) fun xs => pur (x :: xs)) tupV) fun x => bnd (pur []) fun xs => pur (x :: xs)) fun xs => pur (x :: xs)) fun xs => callV [true, false] F_l_wide xs) fun x => bnd (pur []) fun xs => pur (x :: xs)) fun xs => pur (x :: xs)) fun xs => callV [true, false] F_l_right xs) toB) fun b => pur (!b)) (doS (pur (.fz (.at (.bl false)))) fun v ρ => .rt v ρ) nxt)
def g_law_7 : MS := (doS (bnd (bnd (bnd (bnd (getV 3) fun x => bnd (pur []) fun xs => pur (x :: xs)) fun xs => callV [false] F_padding_range xs) fun x => bnd (bnd (bnd (bnd (getV 3) fun x => bnd (bnd (pur (.fz (.at (.int 1)))) fun x => bnd (pur []) fun xs => pur (x :: xs)) fun xs => pur (x :: xs)) fun xs => callV [false, false] F_starts_with_padding xs) fun x => bnd (bnd (bnd (bnd (bnd (bnd (pur (.fz (.at (.str "7 a:")))) fun x => bnd (pur []) fun xs => pur (x :: xs)) fun xs => makeV 10 [false] F_Layout_init xs) fun x => bnd (bnd (pur (.fz (.at (.int 0)))) fun x => bnd (pur []) fun xs => pur (x :: xs)) fun xs => pur (x :: xs)) fun xs => callV [false, false] F_starts_with_padding xs) fun x => bnd (pur []) fun xs => pur (x :: xs)) fun xs => pur (x :: xs)) fun xs => pur (x :: xs)) lstV) fun v => setS false 4 v)
def g_law_8 : MS := (doS (bnd (getV 4) fun x => bnd (bnd (bnd (bnd (bnd (pur (.fz (.at (.int 1)))) fun x => bnd (bnd (pur (.fz (.at (.int 4)))) fun x => bnd (pur []) fun xs => pur (x :: xs)) fun xs => pur (x :: xs)) tupV) fun x => bnd (bnd (bnd (bnd (pur (.fz (.at (.int 2)))) fun x => bnd (bnd (pur (.fz (.at (.int 1)))) fun x => bnd (bnd (pur (.fz (.at (.int 4)))) fun x => bnd (pur []) fun xs => pur (x :: xs)) fun xs => pur (x :: xs)) fun xs => pur (x :: xs)) tupV) fun x => bnd (bnd (bnd (bnd (pur (.fz (.at (.int 0)))) fun x => bnd (bnd (pur (.fz (.at (.int 1)))) fun x => bnd (bnd (pur (.fz (.at (.int 1)))) fun x => bnd (pur []) fun xs => pur (x :: xs)) fun xs => pur (x :: xs)) fun xs => pur (x :: xs)) tupV) fun x => bnd (pur []) fun xs => pur (x :: xs)) fun xs => pur (x :: xs)) fun xs => pur (x :: xs)) lstV) fun y => op2 sEq x y) fun v ρ => .rt v ρ)
def g_law : MS := (seq g_law_4 (seq g_law_5 (seq g_law_6 (seq (doS (bnd (bnd (pur (.fz (.at (.str "@2 1 @4")))) fun x => bnd (pur []) fun xs => pur (x :: xs)) fun xs => makeV 10 [false] F_Layout_init xs) fun v => setS false 3 v) (seq g_law_7 g_law_8)))))
def F_law : Fn := fnB 1 6 [] g_law
end L

set_option Elab.async false
set_option linter.all false
set_option maxRecDepth 100000
set_option maxHeartbeats 4000000
namespace L
open PySem L2 B
section
variable {F : Fn} {ρ : B.Env} {p q : PV} {s t : Sl} {ms : List Bool}
@[simp] theorem callV_1n : callV [false] F [.nw s] ρ = bk0 (F [.fz s.pv]) ρ := by
  rw [← callV_1]; rfl
@[simp] theorem callV_2nf : callV [false, false] F [.nw s, .fz q] ρ = bk0 (F [.fz s.pv, .fz q]) ρ := by
  rw [← callV_2]; rfl
@[simp] theorem callV_2fn : callV [false, false] F [.fz q, .nw s] ρ = bk0 (F [.fz q, .fz s.pv]) ρ := by
  rw [← callV_2]; rfl
@[simp] theorem callV_2nn : callV [false, false] F [.nw t, .nw s] ρ = bk0 (F [.fz t.pv, .fz s.pv]) ρ := by
  rw [← callV_2]; rfl
end
/-! ### the plain law -/
abbrev I (i : Int) : PV := .at (.int i)
structure Tr where
  m : Int
  b : Int
  a : Int
deriving DecidableEq
abbrev Tr.pv (t : Tr) : PV := .tup [I t.m, I t.b, I t.a]
abbrev Tr.ch (t : Tr) : PV := .ins 99 [(98, t.pv)]
abbrev Tr.ci (t : Tr) : Sl := .oi 99 [(98, t.pv)]
def cl (m x : Int) : Int := (x + m - 1) / m * m
def red (m b a : Int) : Tr := ⟨m, b % m, a + b / m * m⟩
def Tr.join (t o : Tr) : Tr := if o.m ≤ t.m then ⟨t.m, t.b, cl o.m (t.a + o.b) + o.a⟩ else red o.m (t.b + cl t.m (t.a + o.b)) o.a
def Tr.pow (t : Tr) (i : Int) : Tr := if i = 0 then ⟨1, 0, 0⟩ else ⟨t.m, t.b, t.a + (i - 1) * cl t.m (t.b + t.a)⟩
def Tr.end_ (t : Tr) (x : Int) : Int := cl t.m (x + t.b) + t.a
def Pw (m : Int) : Prop := ∃ k : Nat, k ≤ 60 ∧ m = 2 ^ k
structure Wf (n : Nat) (t : Tr) : Prop where
  pw : Pw t.m
  b0 : 0 ≤ t.b
  bm : t.b < t.m
  a0 : 0 ≤ t.a
  bd : Bd n t.a
theorem Pw.pos {m : Int} (h : Pw m) : 0 < m := by
  obtain ⟨k, _, rfl⟩ := h
  exact Int.pow_pos (by decide)
theorem Pw.bd {m : Int} (h : Pw m) : Bd 61 m := by
  obtain ⟨k, hk, rfl⟩ := h
  refine Bd.lt (Int.le_of_lt (Int.pow_pos (by decide))) ?_
  have h1 : (2 : Nat) ^ k < 2 ^ 61 := Nat.pow_lt_pow_right (by decide) (by omega)
  exact_mod_cast h1
theorem Pw.dvd {m n : Int} (h : Pw m) (h' : Pw n) (l : m ≤ n) : m ∣ n := by
  obtain ⟨k, hk, rfl⟩ := h
  obtain ⟨j, hj, rfl⟩ := h'
  by_cases e : k ≤ j
  · obtain ⟨d, rfl⟩ := Nat.le.dest e
    exact ⟨2 ^ d, by rw [Int.pow_add]⟩
  · exfalso
    have h1 : (2 : Nat) ^ j < 2 ^ k := Nat.pow_lt_pow_right (by decide) (by omega)
    have h2 : (2 : Int) ^ j < 2 ^ k := by exact_mod_cast h1
    omega
theorem Pw.one : Pw 1 := ⟨0, by decide, rfl⟩
theorem Wf.mono {n k : Nat} {t : Tr} (h : Wf n t) (l : n ≤ k) : Wf k t := ⟨h.pw, h.b0, h.bm, h.a0, h.bd.mono l⟩
/-! #### ceilings -/
theorem cl_dvd {m x : Int} : m ∣ cl m x := ⟨(x + m - 1) / m, by unfold cl; rw [Int.mul_comm]⟩
theorem cl_ge {m x : Int} (h : 0 < m) : x ≤ cl m x := by
  unfold cl
  have := Int.lt_ediv_add_one_mul_self (x + m - 1) h
  rw [Int.add_mul] at this
  omega
theorem cl_lt {m x : Int} (h : 0 < m) : cl m x < x + m := by
  unfold cl
  have := Int.ediv_mul_le (x + m - 1) (Int.ne_of_gt h)
  omega
theorem cl_eq {m x c : Int} (h : 0 < m) (d : m ∣ c) (g : x ≤ c) (l : c < x + m) : cl m x = c := by
  obtain ⟨i, hi⟩ := d
  obtain ⟨j, hj⟩ := @cl_dvd m x
  have h1 := @cl_ge m x h
  have h2 := @cl_lt m x h
  rw [hj] at h1 h2 ⊢
  rw [hi] at g l ⊢
  have a1 : m * i < m * (j + 1) := by rw [Int.mul_add]; omega
  have a2 : m * j < m * (i + 1) := by rw [Int.mul_add]; omega
  have b1 := Int.lt_of_mul_lt_mul_left a1 (Int.le_of_lt h)
  have b2 := Int.lt_of_mul_lt_mul_left a2 (Int.le_of_lt h)
  have : i = j := by omega
  rw [this]
theorem cl_of_dvd {m x : Int} (h : 0 < m) (d : m ∣ x) : cl m x = x := cl_eq h d (Int.le_refl _) (by omega)
theorem cl_add {m x d : Int} (h : 0 < m) (hd : m ∣ d) : cl m (x + d) = cl m x + d :=
  cl_eq h (Int.dvd_add cl_dvd hd) (by have := @cl_ge m x h; omega) (by have := @cl_lt m x h; omega)
theorem cl_add' {m x d : Int} (h : 0 < m) (hd : m ∣ d) : cl m (d + x) = d + cl m x := by rw [Int.add_comm, cl_add h hd, Int.add_comm]
theorem cl_cl {m k z : Int} (h : 0 < m) (hk : 0 < k) (d : m ∣ k) : cl k (cl m z) = cl k z := by
  obtain ⟨c1, h1⟩ := Int.dvd_trans d (@cl_dvd k z)
  obtain ⟨c2, h2⟩ := @cl_dvd m z
  have a1 := @cl_ge m z h
  have a2 := @cl_lt m z h
  have a3 := @cl_ge k z hk
  have a4 := @cl_lt k z hk
  refine cl_eq hk cl_dvd ?_ (by omega)
  rw [h1] at a3 a4 ⊢
  rw [h2] at a1 a2 ⊢
  have b1 : m * c2 < m * (c1 + 1) := by rw [Int.mul_add]; omega
  have b2 := Int.lt_of_mul_lt_mul_left b1 (Int.le_of_lt h)
  exact Int.mul_le_mul_of_nonneg_left (by omega) (Int.le_of_lt h)
theorem cl_nonneg {m x : Int} (h : 0 < m) (hx : 0 ≤ x) : 0 ≤ cl m x := Int.le_trans hx (cl_ge h)
theorem cl_mono {m x y : Int} (h : 0 < m) (l : x ≤ y) : cl m x ≤ cl m y := by
  unfold cl
  exact Int.mul_le_mul_of_nonneg_right (Int.ediv_le_ediv h (by omega)) (Int.le_of_lt h)
theorem cl_bd {n : Nat} {m x : Int} (hm : Pw m) (hx : 0 ≤ x) (b : Bd n x) (hn : 61 ≤ n) : Bd (n + 1) (cl m x) := by
  have h1 := @cl_lt m x hm.pos
  exact Bd.of (cl_nonneg hm.pos hx) (Int.le_of_lt h1) (b.add (hm.bd.mono hn))
/-! #### triples -/
theorem red_wf {n : Nat} {m b a : Int} (hm : Pw m) (hb : 0 ≤ b) (ha : 0 ≤ a) (bb : Bd n b) (ba : Bd n a) : Wf (n + 1) (red m b a) := by
  have h1 := Int.emod_add_mul_ediv b m
  have h2 := Int.emod_nonneg b (Int.ne_of_gt hm.pos)
  have h3 : 0 ≤ b / m * m := Int.mul_nonneg (Int.ediv_nonneg hb (Int.le_of_lt hm.pos)) (Int.le_of_lt hm.pos)
  have h4 : b / m * m ≤ b := by rw [Int.mul_comm]; omega
  exact ⟨hm, h2, Int.emod_lt_of_pos b hm.pos, Int.add_nonneg ha h3, ba.add (Bd.of h3 h4 bb)⟩
theorem red_id {t : Tr} {n : Nat} (h : Wf n t) : red t.m t.b t.a = t := by
  unfold red
  rw [Int.emod_eq_of_lt h.b0 h.bm, Int.ediv_eq_zero_of_lt h.b0 h.bm]
  simp
theorem red_end {m b a x : Int} (h : 0 < m) : (red m b a).end_ x = cl m (x + b) + a := by
  simp only [red, Tr.end_]
  have h1 := Int.emod_add_mul_ediv b m
  have h2 : x + b = (x + b % m) + b / m * m := by rw [Int.mul_comm] at h1; omega
  rw [h2, cl_add h ⟨b / m, Int.mul_comm _ _⟩]
  omega
theorem join_wf {n : Nat} {t o : Tr} (h : Wf n t) (h' : Wf n o) (hn : 62 ≤ n) : Wf (n + 4) (t.join o) := by
  unfold Tr.join
  have bb : Bd n o.b := Bd.of h'.b0 (Int.le_of_lt h'.bm) (h'.pw.bd.mono (by omega))
  have bb' : Bd n t.b := Bd.of h.b0 (Int.le_of_lt h.bm) (h.pw.bd.mono (by omega))
  have b1 := h.bd.add bb
  have p1 : 0 ≤ t.a + o.b := Int.add_nonneg h.a0 h'.b0
  split
  · have b2 := cl_bd h'.pw p1 b1 (by omega)
    exact ⟨h.pw, h.b0, h.bm, Int.add_nonneg (cl_nonneg h'.pw.pos p1) h'.a0, (b2.add (h'.bd.mono (by omega))).mono (by omega)⟩
  · have b2 := cl_bd h.pw p1 b1 (by omega)
    exact (red_wf (n := n + 3) h'.pw (Int.add_nonneg h.b0 (cl_nonneg h.pw.pos p1)) h'.a0 ((bb'.mono (by omega)).add b2) (h'.bd.mono (by omega)))
theorem join_end {n k : Nat} {t o : Tr} {x : Int} (h : Wf n t) (h' : Wf k o) : (t.join o).end_ x = o.end_ (t.end_ x) := by
  unfold Tr.join
  split
  · rename_i l
    simp only [Tr.end_]
    rw [Int.add_assoc (cl t.m _), cl_add' h'.pw.pos (Int.dvd_trans (h'.pw.dvd h.pw l) cl_dvd)]
    omega
  · rename_i l
    rw [red_end h'.pw.pos]
    simp only [Tr.end_]
    have d := h.pw.dvd h'.pw (by omega)
    rw [← cl_cl h.pw.pos h'.pw.pos d, ← Int.add_assoc, cl_add h.pw.pos cl_dvd, Int.add_assoc (cl t.m (x + t.b)), ← cl_cl (z := cl t.m (x + t.b) + (t.a + o.b)) h.pw.pos h'.pw.pos d, cl_add' h.pw.pos cl_dvd]
theorem join_m {t o : Tr} : (t.join o).m = max t.m o.m := by
  unfold Tr.join
  split
  · simp only; omega
  · simp only [red]; omega
theorem tr_uniq {n k : Nat} {t o : Tr} (h : Wf n t) (h' : Wf k o) (e : t.m = o.m) (f : ∀ x, t.end_ x = o.end_ x) : t = o := by
  obtain ⟨m, b, a⟩ := t
  obtain ⟨m', b', a'⟩ := o
  simp only at e
  subst e
  have hm := h.pw.pos
  have hb := h.b0; have hbm := h.bm; have hb' := h'.b0; have hbm' := h'.bm
  simp only at hm hb hbm hb' hbm'
  have f1 := f (m - b)
  have f2 := f (m - b')
  simp only [Tr.end_] at f1 f2
  have c1 : cl m (m - b + b) = m := cl_eq hm ⟨1, by omega⟩ (by omega) (by omega)
  have c2 : cl m (m - b' + b') = m := cl_eq hm ⟨1, by omega⟩ (by omega) (by omega)
  rw [c1] at f1
  rw [c2] at f2
  rcases Int.lt_trichotomy b b' with l | l | l
  · have c3 : cl m (m - b + b') = 2 * m := cl_eq hm ⟨2, by omega⟩ (by omega) (by omega)
    have c4 : cl m (m - b' + b) = m := cl_eq hm ⟨1, by omega⟩ (by omega) (by omega)
    omega
  · subst l
    have : a = a' := by omega
    rw [this]
  · have c3 : cl m (m - b + b') = m := cl_eq hm ⟨1, by omega⟩ (by omega) (by omega)
    have c4 : cl m (m - b' + b) = 2 * m := cl_eq hm ⟨2, by omega⟩ (by omega) (by omega)
    omega
theorem join_assoc {n : Nat} {t o u : Tr} (h : Wf n t) (h' : Wf n o) (h'' : Wf n u) (hn : 62 ≤ n) : (t.join o).join u = t.join (o.join u) := by
  have w1 := join_wf h h' hn
  have w2 := join_wf h' h'' hn
  have v1 := join_wf w1 (h''.mono (Nat.le_add_right n 4)) (by omega)
  have v2 := join_wf (h.mono (Nat.le_add_right n 4)) w2 (by omega)
  refine tr_uniq v1 v2 ?_ fun x => ?_
  · rw [join_m, join_m, join_m, join_m]; omega
  · rw [join_end w1 h'', join_end h h', join_end h w2, join_end h' h'']
abbrev one : Tr := ⟨1, 0, 0⟩
theorem one_wf {n : Nat} : Wf n one := ⟨Pw.one, by decide, by decide, by decide, by unfold Bd; exact Nat.pow_pos (by decide)⟩
theorem one_end {x : Int} : one.end_ x = x := by
  simp only [Tr.end_]
  rw [cl_of_dvd (by decide) ⟨_, (Int.one_mul _).symm⟩]
  omega
theorem join_one {n : Nat} {t : Tr} (h : Wf n t) : t.join one = t := by
  have h1 := h.mono (Nat.le_add_right n 62)
  refine tr_uniq (join_wf h1 one_wf (by omega)) h ?_ fun x => ?_
  · rw [join_m]; have := h.pw.pos; simp only; omega
  · rw [join_end h1 (one_wf (n := 0)), one_end]
theorem one_join {n : Nat} {t : Tr} (h : Wf n t) : one.join t = t := by
  have h1 := h.mono (Nat.le_add_right n 62)
  refine tr_uniq (join_wf one_wf h1 (by omega)) h ?_ fun x => ?_
  · rw [join_m]; have := h.pw.pos; simp only; omega
  · rw [join_end (one_wf (n := 0)) h1, one_end]
/-! #### times -/
theorem pow_wf {n : Nat} {t : Tr} {i : Int} (h : Wf n t) (hi : 0 ≤ i) (bi : Bd 100 i) (hn : 62 ≤ n) : Wf (n + 103) (t.pow i) := by
  unfold Tr.pow
  split
  · exact one_wf
  · have bb : Bd n t.b := Bd.of h.b0 (Int.le_of_lt h.bm) (h.pw.bd.mono (by omega))
    have p1 : 0 ≤ t.b + t.a := Int.add_nonneg h.b0 h.a0
    have b2 := cl_bd h.pw p1 (bb.add h.bd) (by omega)
    have p2 := cl_nonneg h.pw.pos p1
    have b3 : Bd (100 + (n + 2)) ((i - 1) * cl t.m (t.b + t.a)) := (Bd.of (by omega) (by omega) bi).mul b2
    refine ⟨h.pw, h.b0, h.bm, Int.add_nonneg h.a0 (Int.mul_nonneg (by omega) p2), ?_⟩
    exact ((h.bd.mono (by omega)).add b3).mono (by omega)
theorem pow_add {n : Nat} {t : Tr} {i j : Int} (h : Wf n t) (hi : 0 ≤ i) (hj : 0 ≤ j) (bi : Bd 100 i) (bj : Bd 100 j) (hn : 62 ≤ n) : (t.pow i).join (t.pow j) = t.pow (i + j) := by
  by_cases ei : i = 0
  · subst ei
    rw [show t.pow 0 = one from if_pos rfl, one_join (pow_wf h hj bj hn), Int.zero_add]
  by_cases ej : j = 0
  · subst ej
    rw [show t.pow 0 = one from if_pos rfl, join_one (pow_wf h hi bi hn), Int.add_zero]
  rw [Tr.pow, Tr.pow, Tr.pow, if_neg ei, if_neg ej, if_neg (by omega), Tr.join, if_pos (Int.le_refl _)]
  simp only [Tr.mk.injEq, true_and]
  have e : t.a + (i - 1) * cl t.m (t.b + t.a) + t.b = t.b + t.a + (i - 1) * cl t.m (t.b + t.a) := by omega
  rw [e, cl_add h.pw.pos (Int.dvd_mul_of_dvd_right cl_dvd)]
  have e2 : i + j - 1 = 1 + (i - 1) + (j - 1) := by omega
  rw [e2, Int.add_mul, Int.add_mul]
  omega
theorem pow_one {t : Tr} : t.pow 1 = t := by
  rw [Tr.pow, if_neg (by decide)]
  simp
theorem pow_succ {n : Nat} {t : Tr} {i : Int} (h : Wf n t) (hi : 0 ≤ i) (bi : Bd 100 i) (hn : 62 ≤ n) : (t.pow i).join t = t.pow (i + 1) := by
  rw [← pow_add h hi (by decide) bi (by unfold Bd; decide) hn, pow_one]
theorem pow_mul {n : Nat} {t : Tr} {i j : Int} (h : Wf n t) (hi : 0 < i) (hj : 0 < j) : (t.pow i).pow j = t.pow (i * j) := by
  rw [Tr.pow, Tr.pow, Tr.pow, if_neg (by omega), if_neg (by omega), if_neg (Int.ne_of_gt (Int.mul_pos hi hj))]
  simp only [Tr.mk.injEq, true_and]
  have e : t.b + (t.a + (i - 1) * cl t.m (t.b + t.a)) = t.b + t.a + (i - 1) * cl t.m (t.b + t.a) := by omega
  rw [e, cl_add h.pw.pos (Int.dvd_mul_of_dvd_right cl_dvd)]
  generalize cl t.m (t.b + t.a) = c
  have e1 : c + (i - 1) * c = i * c := by rw [Int.sub_mul]; omega
  rw [e1, Int.sub_mul, Int.sub_mul, Int.sub_mul, Int.one_mul, Int.one_mul, ← Int.mul_assoc, Int.mul_comm j i]
  omega

/-! #### never beyond -/
def nb (t o : Tr) : Prop := t.m + t.a ≤ cl (min t.m o.m) (1 + o.b - t.b) + o.a
instance (t o : Tr) : Decidable (nb t o) := inferInstanceAs (Decidable (_ ≤ _))
theorem Pw.min {m k : Int} (h : Pw m) (h' : Pw k) : Pw (min m k) := by
  by_cases e : m ≤ k
  · rw [Int.min_eq_left e]; exact h
  · rw [Int.min_eq_right (by omega)]; exact h'
theorem cl_le {m x c : Int} (h : 0 < m) (d : m ∣ c) (g : x ≤ c) : cl m x ≤ c := by
  have := cl_mono h g
  rw [cl_of_dvd h d] at this
  exact this
theorem nb_end {n k : Nat} {t o : Tr} (h : Wf n t) (h' : Wf k o) (w : nb t o) (x : Int) : t.end_ x ≤ o.end_ x := by
  unfold nb at w
  have pl := h.pw.min h'.pw
  have d1 : min t.m o.m ∣ t.m := pl.dvd h.pw (Int.min_le_left _ _)
  have d2 : min t.m o.m ∣ o.m := pl.dvd h'.pw (Int.min_le_right _ _)
  simp only [Tr.end_]
  have l1 := @cl_lt t.m (x + t.b) h.pw.pos
  have l2 := @cl_ge o.m (x + o.b) h'.pw.pos
  have c := cl_le (x := 1 + o.b - t.b) pl.pos (Int.dvd_add (Int.dvd_sub (Int.dvd_trans d2 (@cl_dvd o.m (x + o.b))) (Int.dvd_trans d1 (@cl_dvd t.m (x + t.b)))) d1) (by omega)
  omega
theorem mod_up {m z : Int} : ∃ q, z % m = z - m * q := ⟨z / m, by have := Int.emod_add_mul_ediv z m; omega⟩
theorem nb_wit {n k : Nat} {t o : Tr} (h : Wf n t) (h' : Wf k o) : ∃ x, 0 ≤ x ∧ x < max t.m o.m ∧ (t.end_ x ≤ o.end_ x → nb t o) := by
  have p := h.pw.pos
  have p' := h'.pw.pos
  by_cases e : t.m ≤ o.m
  · have g1 := @cl_ge t.m (1 + o.b - t.b) p
    have g2 := @cl_lt t.m (1 + o.b - t.b) p
    obtain ⟨c, hc⟩ := @cl_dvd t.m (1 + o.b - t.b)
    obtain ⟨q, hq⟩ := @mod_up o.m (-(o.b + (cl t.m (1 + o.b - t.b) - (1 + o.b - t.b))))
    obtain ⟨d, hd⟩ := h.pw.dvd h'.pw e
    have x0 := Int.emod_nonneg (-(o.b + (cl t.m (1 + o.b - t.b) - (1 + o.b - t.b)))) (Int.ne_of_gt p')
    have x1 := Int.emod_lt_of_pos (-(o.b + (cl t.m (1 + o.b - t.b) - (1 + o.b - t.b)))) p'
    refine ⟨_, x0, by omega, fun w => ?_⟩
    generalize -(o.b + (cl t.m (1 + o.b - t.b) - (1 + o.b - t.b))) % o.m = x at *
    have B : cl o.m (x + o.b) = x + o.b + (cl t.m (1 + o.b - t.b) - (1 + o.b - t.b)) := cl_eq p' ⟨-q, by rw [Int.mul_neg]; omega⟩ (by omega) (by omega)
    have dv : t.m ∣ x + t.b - 1 := by
      have e1 : x + t.b - 1 = -(o.m * q) - cl t.m (1 + o.b - t.b) := by omega
      rw [e1]
      exact Int.dvd_sub (Int.dvd_neg.mpr (Int.dvd_trans ⟨d, hd⟩ ⟨q, rfl⟩)) cl_dvd
    have A : cl t.m (x + t.b) = x + t.b - 1 + t.m := cl_eq p (Int.dvd_add dv ⟨1, by omega⟩) (by omega) (by omega)
    simp only [Tr.end_] at w
    unfold nb
    rw [Int.min_eq_left e]
    omega
  · obtain ⟨q, hq⟩ := @mod_up t.m (1 - t.b)
    obtain ⟨d, hd⟩ := h'.pw.dvd h.pw (by omega)
    have x0 := Int.emod_nonneg (1 - t.b) (Int.ne_of_gt p)
    have x1 := Int.emod_lt_of_pos (1 - t.b) p
    refine ⟨_, x0, by omega, fun w => ?_⟩
    generalize (1 - t.b) % t.m = x at *
    have dv : t.m ∣ x + t.b - 1 := ⟨-q, by rw [Int.mul_neg]; omega⟩
    have A : cl t.m (x + t.b) = x + t.b - 1 + t.m := cl_eq p (Int.dvd_add dv ⟨1, by omega⟩) (by omega) (by omega)
    have B : cl o.m (x + o.b) = x + t.b - 1 + cl o.m (1 + o.b - t.b) := by
      rw [← cl_add' p' (Int.dvd_trans ⟨d, hd⟩ dv)]
      congr 1
      omega
    simp only [Tr.end_] at w
    unfold nb
    rw [Int.min_eq_right (by omega)]
    omega
theorem nb_iff {n k : Nat} {t o : Tr} (h : Wf n t) (h' : Wf k o) : nb t o ↔ ∀ x, 0 ≤ x → t.end_ x ≤ o.end_ x := ⟨fun w x _ => nb_end h h' w x, fun f => by
  obtain ⟨x, x0, _, w⟩ := nb_wit h h'
  exact w (f x x0)⟩
theorem nb_great {t o : Tr} (h : 0 < t.m) (h' : 0 < o.m) : nb t o ↔ t.b + t.m + t.a ≤ o.b + (t.b - 1 - o.b) % min t.m o.m + o.a + 1 := by
  unfold nb
  have pl : 0 < min t.m o.m := by omega
  obtain ⟨q, hq⟩ := @mod_up (min t.m o.m) (t.b - 1 - o.b)
  have x0 := Int.emod_nonneg (t.b - 1 - o.b) (Int.ne_of_gt pl)
  have x1 := Int.emod_lt_of_pos (t.b - 1 - o.b) pl
  have e : cl (min t.m o.m) (1 + o.b - t.b) = 1 + o.b - t.b + (t.b - 1 - o.b) % min t.m o.m := cl_eq pl ⟨-q, by rw [Int.mul_neg]; omega⟩ (by omega) (by omega)
  rw [e]
  omega
theorem nb_refl {t : Tr} (h : 0 < t.m) : nb t t := by
  unfold nb
  rw [Int.min_self, show 1 + t.b - t.b = 1 by omega]
  have := @cl_eq t.m 1 t.m h ⟨1, by omega⟩ (by omega) (by omega)
  omega
theorem nb_anti {n k : Nat} {t o : Tr} (h : Wf n t) (h' : Wf k o) (w : nb t o) (w' : nb o t) : t = o := by
  have p := h.pw.pos
  have p' := h'.pw.pos
  have em : t.m = o.m := by
    unfold nb at w w'
    rw [Int.min_comm] at w'
    have pl : 0 < min t.m o.m := by omega
    have d1 : min t.m o.m ∣ t.m := (h.pw.min h'.pw).dvd h.pw (Int.min_le_left _ _)
    have d2 : min t.m o.m ∣ o.m := (h.pw.min h'.pw).dvd h'.pw (Int.min_le_right _ _)
    have h1 : min t.m o.m ≤ t.m := Int.min_le_left _ _
    have h2 : min t.m o.m ≤ o.m := Int.min_le_right _ _
    have h3 : min t.m o.m = t.m ∨ min t.m o.m = o.m := by omega
    generalize min t.m o.m = l at *
    obtain ⟨q, hq⟩ := @mod_up l (o.b - t.b)
    have x0 := Int.emod_nonneg (o.b - t.b) (Int.ne_of_gt pl)
    have x1 := Int.emod_lt_of_pos (o.b - t.b) pl
    have c1 : cl l (1 + o.b - t.b) = l * q + l := cl_eq pl ⟨q + 1, by rw [Int.mul_add, Int.mul_one]⟩ (by omega) (by omega)
    have c2 : cl l (1 + t.b - o.b) ≤ -(l * q) + l := by
      by_cases z : (o.b - t.b) % l = 0
      · rw [cl_eq (c := -(l * q) + l) pl ⟨-q + 1, by rw [Int.mul_add, Int.mul_neg, Int.mul_one]⟩ (by omega) (by omega)]
        omega
      · rw [cl_eq (c := -(l * q)) pl ⟨-q, by rw [Int.mul_neg]⟩ (by omega) (by omega)]
        omega
    omega
  refine tr_uniq h h' em fun x => ?_
  have g1 := nb_end h h' w x
  have g2 := nb_end h' h w' x
  omega
theorem end_mono {n : Nat} {t : Tr} {x y : Int} (h : Wf n t) (l : x ≤ y) : t.end_ x ≤ t.end_ y := by
  simp only [Tr.end_]
  have := cl_mono h.pw.pos (show x + t.b ≤ y + t.b by omega)
  omega
theorem nb_left {n : Nat} {s t o : Tr} (h0 : Wf n s) (h : Wf n t) (h' : Wf n o) (hn : 62 ≤ n) (w : nb t o) : nb (s.join t) (s.join o) := by
  refine (nb_iff (join_wf h0 h hn) (join_wf h0 h' hn)).mpr fun x _ => ?_
  rw [join_end h0 h, join_end h0 h']
  exact nb_end h h' w _
theorem nb_right {n : Nat} {s t o : Tr} (h0 : Wf n s) (h : Wf n t) (h' : Wf n o) (hn : 62 ≤ n) (w : nb t o) : nb (t.join s) (o.join s) := by
  refine (nb_iff (join_wf h h0 hn) (join_wf h' h0 hn)).mpr fun x _ => ?_
  rw [join_end h h0, join_end h' h0]
  exact end_mono h0 (nb_end h h' w x)
end L

set_option Elab.async false
set_option linter.all false
set_option maxRecDepth 100000
set_option maxHeartbeats 4000000
namespace L
open PySem L2 B

section
variable {ρ e : B.Env} {p : PV} {s t : Sl} {z : Xc}
@[simp] theorem bk0_fz : bk0 (.ok (.fz p) e) ρ = .ok (.fz p) ρ := rfl
@[simp] theorem bk0_nw : bk0 (.ok (.nw s) e) ρ = .ok (.nw s) ρ := rfl
@[simp] theorem bk0_ex : bk0 (.ex z e) ρ = .ex z ρ := rfl
@[simp] theorem bkM_ok {c : Nat} {fs : List (Nat × PV)} : bkM (.ok (.fz (.at .non)) (some (.oi c fs) :: e)) ρ = .ok (.nw (.oi c fs)) ρ := rfl
@[simp] theorem bkM_ex {o : Option Sl} : bkM (.ex z (o :: e)) ρ = .ex z ρ := rfl
end
section
variable {x y : Int} {a b : Bool}
@[simp] theorem sEq_bl : sEq (.at (.bl a)) (.at (.bl b)) = some (.fz (.at (.bl (decide (a = b))))) := by
  simp [sEq, oor, sEqA, scal]
@[simp] theorem sNe_bl : sNe (.at (.bl a)) (.at (.bl b)) = some (.fz (.at (.bl (!decide (a = b))))) := by
  simp [sNe, oor, sNeA, scal]
theorem pds_int : ∀ ys : List Int, pds (ys.map I) = some (ys.map .int)
  | [] => by simp [pds]
  | y :: ys => by simp [pds, pd, pds_int ys]
theorem lay_int : ∀ ys : List Int, PyData.canLayAll0 (ys.map .int) = true
  | [] => by simp [PyData.canLayAll0]
  | y :: ys => by simp [PyData.canLayAll0, PyData.canLay0, lay_int ys]
theorem dep_int : ∀ ys : List Int, PyData.depthAll (ys.map .int) ≤ 1
  | [] => by simp [PyData.depthAll]
  | y :: ys => by
    have := dep_int ys
    simp [PyData.depthAll, PyData.depth]
    omega
theorem shp_int (ys : List Int) : SeqAt.shaped (.list (ys.map .int)) = true := by
  have := dep_int ys
  simp [SeqAt.shaped, PyData.canLay0, lay_int, PyData.depth]
  omega
theorem sEq_ints (xs ys : List Int) : sEq (.lst (xs.map I)) (.lst (ys.map I)) = some (.fz (.at (.bl (PyData.eqvAll (xs.map .int) (ys.map .int))))) := by
  simp [sEq, oor, sEqA, sEqD, pd, pds_int, shp_int, PyData.eqv]
theorem sEq_nil (ys : List Int) : sEq (.lst (ys.map I)) (.lst []) = some (.fz (.at (.bl ys.isEmpty))) := by
  have := sEq_ints ys []
  simp only [List.map_nil] at this
  rw [this]
  cases ys <;> simp [PyData.eqvAll]
@[simp] theorem sEq_int : sEq (.at (.int x)) (.at (.int y)) = some (.fz (.at (.bl (decide (x = y))))) := by
  simp [sEq, oor, sEqA, scal]
@[simp] theorem sNe_int : sNe (.at (.int x)) (.at (.int y)) = some (.fz (.at (.bl (!decide (x = y))))) := by
  simp [sNe, oor, sNeA, scal]
end
/-! ### what the defs compute -/
section
variable {ρ : B.Env}
theorem Bd.divC' {m x : Int} (h : Pw m) : divC x m = true := divC_bd (n := 61) h.pos h.bd
theorem e_ceil {n : Nat} {m x : Int} (h : Pw m) (b : Bd n x) (hn : n ≤ 10000) : bk0 (F_ceil_to [.fz (I m), .fz (I x)]) ρ = .ok (.fz (I (cl m x))) ρ := by
  have h1 : divC (x + m - 1) m = true := Bd.divC' h
  have h2 : mulC ((x + m - 1) / m) m = true := by
    have b0 : Bd (n + 61) x := b.mono (by omega)
    have b1 : Bd (n + 61) m := h.bd.mono (by omega)
    have b2 : Bd (n + 61 + 1) 1 := by unfold Bd; exact Nat.one_lt_pow (by omega) (by decide)
    have b3 := ((b0.add b1).sub b2).div h.pos
    exact mulC_bd b3 h.bd (by omega)
  simp [F_ceil_to, g_ceil_to, cl, fnB, plainA, Sl.own, doS, bnd, getV, pur, op2, deref, Sl.pv, lift, sPlus, sSub, sMul, sDiv, sMod, sPow, powC, modC, oor, sAdd, sI, sIc, fnR, outs, seq, nxt, unpS, tgT, tgs, tgN, ifS, tupV, lstV, frzs, frz, sIx, sLe, sLt, sGt, sGe, sAnd, toB, atI, ixN, setS, setIx, setFld, putN, orT, andV, andT, isiV, PV.kd, fldV, ownsA, chkI, chkN, chkK, parS, pass1, h1, h2]
theorem e_red {n : Nat} {m b a : Int} (h : Pw m) (bb : Bd n b) (hn : n ≤ 10000) : bk0 (F_reduced [.fz (I m), .fz (I b), .fz (I a)]) ρ = .ok (.fz (red m b a).pv) ρ := by
  have h1 : divC b m = true := Bd.divC' h
  have h2 : mulC (b / m) m = true := mulC_bd (bb.div h.pos) h.bd (by omega)
  have h3 := h.pos
  simp [F_reduced, g_reduced, red, fnB, plainA, Sl.own, doS, bnd, getV, pur, op2, deref, Sl.pv, lift, sPlus, sSub, sMul, sDiv, sMod, sPow, powC, modC, oor, sAdd, sI, sIc, fnR, outs, seq, nxt, unpS, tgT, tgs, tgN, ifS, tupV, lstV, frzs, frz, sIx, sLe, sLt, sGt, sGe, sAnd, toB, atI, ixN, setS, setIx, setFld, putN, orT, andV, andT, isiV, PV.kd, fldV, ownsA, chkI, chkN, chkK, parS, pass1, h1, h2, h3]
theorem e_is_int {x : Int} : bk0 (F_is_int [.fz (I x)]) ρ = .ok (.fz (.at (.bl true))) ρ := by
  simp [F_is_int, g_is_int, fnB, plainA, Sl.own, doS, bnd, getV, pur, op2, deref, Sl.pv, lift, sPlus, sSub, sMul, sDiv, sMod, sPow, powC, modC, oor, sAdd, sI, sIc, fnR, outs, seq, nxt, unpS, tgT, tgs, tgN, ifS, tupV, lstV, frzs, frz, sIx, sLe, sLt, sGt, sGe, sAnd, toB, atI, ixN, setS, setIx, setFld, putN, orT, andV, andT, isiV, PV.kd, fldV, ownsA, chkI, chkN, chkK, parS, pass1, isi_int, isi_bool]
theorem e_in_range {x lo hi : Int} : bk0 (F_in_range [.fz (I x), .fz (I lo), .fz (I hi)]) ρ = .ok (.fz (.at (.bl (decide (lo ≤ x) && decide (x ≤ hi))))) ρ := by
  simp only [F_in_range, g_in_range]
  simp [fnB, plainA, Sl.own, doS, bnd, getV, pur, op2, deref, Sl.pv, lift, sPlus, sSub, sMul, sDiv, sMod, sPow, powC, modC, oor, sAdd, sI, sIc, fnR, outs, seq, nxt, unpS, tgT, tgs, tgN, ifS, tupV, lstV, frzs, frz, sIx, sLe, sLt, sGt, sGe, sAnd, toB, atI, ixN, setS, setIx, setFld, putN, orT, andV, andT, isiV, PV.kd, fldV, ownsA, chkI, chkN, chkK, parS, pass1, e_is_int, chainV]
  by_cases h : lo ≤ x <;> simp [fnB, plainA, Sl.own, doS, bnd, getV, pur, op2, deref, Sl.pv, lift, sPlus, sSub, sMul, sDiv, sMod, sPow, powC, modC, oor, sAdd, sI, sIc, fnR, outs, seq, nxt, unpS, tgT, tgs, tgN, ifS, tupV, lstV, frzs, frz, sIx, sLe, sLt, sGt, sGe, sAnd, toB, atI, ixN, setS, setIx, setFld, putN, orT, andV, andT, isiV, PV.kd, fldV, ownsA, chkI, chkN, chkK, parS, pass1, h]
theorem pow_and : ∀ k : Nat, k ≤ 60 → Builtin.bitAnd ((2 : Int) ^ k) ((2 : Int) ^ k - 1) = 0 := by
  have h : ∀ k : Fin 61, Builtin.bitAnd ((2 : Int) ^ k.1) ((2 : Int) ^ k.1 - 1) = 0 := by decide
  exact fun k hk => h ⟨k, by omega⟩
theorem e_is_power {m : Int} (h : Pw m) : bk0 (F_is_power [.fz (I m)]) ρ = .ok (.fz (.at (.bl true))) ρ := by
  have h1 := h.pos
  obtain ⟨k, hk, rfl⟩ := h
  have h2 := pow_and k hk
  have h3 : (2 : Int) ^ k ≤ 1152921504606846976 := by
    have e : (1152921504606846976 : Int) = ((2 ^ 60 : Nat) : Int) := by decide
    rw [e, show (2 : Int) ^ k = ((2 ^ k : Nat) : Int) from (Int.natCast_pow 2 k).symm]
    exact Int.ofNat_le.mpr (Nat.pow_le_pow_right (by decide) hk)
  have h4 : (1 : Int) ≤ 2 ^ k := h1
  simp only [F_is_power, g_is_power]
  simp [fnB, plainA, Sl.own, doS, bnd, getV, pur, op2, deref, Sl.pv, lift, sPlus, sSub, sMul, sDiv, sMod, sPow, powC, modC, oor, sAdd, sI, sIc, fnR, outs, seq, nxt, unpS, tgT, tgs, tgN, ifS, tupV, lstV, frzs, frz, sIx, sLe, sLt, sGt, sGe, sAnd, toB, atI, ixN, setS, setIx, setFld, putN, orT, andV, andT, isiV, PV.kd, fldV, ownsA, chkI, chkN, chkK, parS, pass1, e_in_range, h2, h3, h4]
theorem e_start {x : Int} (h : 0 ≤ x) : bk0 (F_require_start [.fz (I x)]) ρ = .ok (.fz (.at .non)) ρ := by
  simp only [F_require_start, g_require_start]
  have h1 : ¬ x < 0 := by omega
  simp [fnB, plainA, Sl.own, doS, bnd, getV, pur, op2, deref, Sl.pv, lift, sPlus, sSub, sMul, sDiv, sMod, sPow, powC, modC, oor, sAdd, sI, sIc, fnR, outs, seq, nxt, unpS, tgT, tgs, tgN, ifS, tupV, lstV, frzs, frz, sIx, sLe, sLt, sGt, sGe, sAnd, toB, atI, ixN, setS, setIx, setFld, putN, orT, andV, andT, isiV, PV.kd, fldV, ownsA, chkI, chkN, chkK, parS, pass1, e_is_int, h1]
theorem e_end {n k : Nat} {t : Tr} {x : Int} (h : Wf n t) (bx : Bd k x) (hn : 61 ≤ k) (hn' : k ≤ 5000) : bk0 (F_end_by [.fz t.pv, .fz (I x)]) ρ = .ok (.fz (I (t.end_ x))) ρ := by
  have bb : Bd k t.b := Bd.of h.b0 (Int.le_of_lt h.bm) (h.pw.bd.mono (by omega))
  simp only [F_end_by, g_end_by]
  simp [fnB, plainA, Sl.own, doS, bnd, getV, pur, op2, deref, Sl.pv, lift, sPlus, sSub, sMul, sDiv, sMod, sPow, powC, modC, oor, sAdd, sI, sIc, fnR, outs, seq, nxt, unpS, tgT, tgs, tgN, ifS, tupV, lstV, frzs, frz, sIx, sLe, sLt, sGt, sGe, sAnd, toB, atI, ixN, setS, setIx, setFld, putN, orT, andV, andT, isiV, PV.kd, fldV, ownsA, chkI, chkN, chkK, parS, pass1, Tr.end_, e_ceil h.pw (bx.add bb) (by omega)]
end
end L

set_option Elab.async false
set_option linter.all false
set_option maxRecDepth 100000
set_option maxHeartbeats 4000000
namespace L
open PySem L2 B
/-! ### the words of a layout -/
section
variable {ρ : B.Env} {l : List Nat} {c : Nat} {n : Nat} {lo hi : Int}
theorem k_digits : Str.ofString "0123456789" = SX.S [48, 49, 50, 51, 52, 53, 54, 55, 56, 57] := by rfl
theorem k_small : Str.ofString "abcdefghijklmnopqrstuvwxyz" = SX.S [97, 98, 99, 100, 101, 102, 103, 104, 105, 106, 107, 108, 109, 110, 111, 112, 113, 114, 115, 116, 117, 118, 119, 120, 121, 122] := by rfl
theorem k_0 : Str.ofString "0" = SX.S [48] := by rfl
theorem k_at : Str.ofString "@" = SX.S [64] := by rfl
theorem k_col : Str.ofString ":" = SX.S [58] := by rfl
theorem k_op : Str.ofString "(" = SX.S [40] := by rfl
theorem k_cl : Str.ofString ")" = SX.S [41] := by rfl
theorem k_ob : Str.ofString "{" = SX.S [123] := by rfl
theorem k_bar : Str.ofString "|" = SX.S [124] := by rfl
theorem k_cb : Str.ofString "}" = SX.S [125] := by rfl
theorem k_nil : Str.ofString "" = SX.S [] := by rfl
theorem k_sp : Str.ofString " " = SX.S [32] := by rfl
def dig (c : Nat) : Bool := decide (48 ≤ c) && decide (c ≤ 57)
def sml (c : Nat) : Bool := decide (97 ≤ c) && decide (c ≤ 122)
theorem dig_mem : (decide (c ∈ [48, 49, 50, 51, 52, 53, 54, 55, 56, 57])) = dig c := by
  unfold dig
  rw [Bool.eq_iff_iff]
  simp
  omega
theorem sml_mem : (decide (c ∈ [97, 98, 99, 100, 101, 102, 103, 104, 105, 106, 107, 108, 109, 110, 111, 112, 113, 114, 115, 116, 117, 118, 119, 120, 121, 122])) = sml c := by
  unfold sml
  rw [Bool.eq_iff_iff]
  simp
  omega
theorem liB_map (f : Nat → Bool) : ∀ l : List Nat, liB (.lst (l.map fun c => PV.at (.bl (f c)))) = some (l.map f) := by
  have h1 : ∀ l : List Nat, ats (l.map fun c => PV.at (.bl (f c))) = some (l.map fun c => V.bl (f c)) := fun l => by
    induction l with
    | nil => rfl
    | cons c l ih =>
      show (ats (l.map fun c => PV.at (.bl (f c)))).map (V.bl (f c) :: ·) = _
      rw [ih]
      rfl
  have h2 : ∀ l : List Nat, bsL (l.map fun c => V.bl (f c)) = some (l.map f) := fun l => by
    induction l with
    | nil => rfl
    | cons c l ih =>
      show (bsL (l.map fun c => V.bl (f c))).map (f c :: ·) = _
      rw [ih]
      rfl
  intro l
  show (ats (l.map fun c => PV.at (.bl (f c)))).bind bsL = _
  rw [h1]
  exact h2 l
/-- all([f(c) for c in text]) -/
theorem lcS_map {i : Nat} {te : M EV} {E : B.Env} (f : Nat → PV) (hl : l.length ≤ sizeLine) (h : ∀ c ∈ l, te (E.set i (some (.fz (tx [c])))) = .ok (.fz (f c)) (E.set i (some (.fz (tx [c]))))) : lcN (tgN i) [i] (pur true) te (l.map fun c => tx [c]) E = .ok (.nw (.ow (l.map f))) (E.set i none) := by
  let g : PV → PV := fun p => match p with
    | .at (.str z) => f (z.cps.toList.headD 0)
    | _ => .at .non
  have e := lcN_map (i := i) (te := te) (E := E) g (ps := l.map fun c => tx [c]) (by rw [List.length_map]; exact hl) fun p hp => by
    obtain ⟨c, hc, rfl⟩ := List.mem_map.mp hp
    exact h c hc
  rw [e, List.map_map]
  rfl
theorem dec_lc {E : B.Env} (h1 : l.length ≤ 31) (hE : 3 < E.length) : lcN (tgN 3) [3] (pur true) x_is_decimal_1 (l.map fun c => tx [c]) E = .ok (.nw (.ow (l.map fun c => .at (.bl (dig c))))) (E.set 3 none) :=
  lcS_map (fun c => .at (.bl (dig c))) (Nat.le_trans h1 (by decide)) fun c hc => by
    have e := sInS_tx (c := c) (l := [48, 49, 50, 51, 52, 53, 54, 55, 56, 57])
    rw [dig_mem] at e
    simp only [x_is_decimal_1, k_digits]
    simp [bnd, getV, pur, op2, deref, lift, e, hE]
theorem all_bl (f : Nat → Bool) : sAll [.lst (l.map fun c => .at (.bl (f c)))] = some (.fz (.at (.bl (l.all f)))) := by
  show (liB (.lst (l.map fun c => .at (.bl (f c))))).map (fun bs => EV.fz (.at (.bl (bs.all id)))) = _
  rw [liB_map f l]
  simp [List.all_map]
theorem decimal_not (h0 : 0 < l.length) (h1 : l.length ≤ 31) (h : l.all dig = false) : bk0 (F_is_decimal [.fz (tx l), .fz (I lo), .fz (I hi)]) ρ = .ok (.fz (.at (.bl false))) ρ := by
  have sz : l.length ≤ sizeLine := Nat.le_trans h1 (by decide)
  have ln := sLen_tx sz
  have c1 : (1 : Int) ≤ l.length := by omega
  have c2 : (l.length : Int) ≤ 31 := by omega
  have lc4 := dec_lc (E := [some (.fz (tx l)), some (.fz (I lo)), some (.fz (I hi)), none]) h1 (by simp)
  have aa := all_bl (l := l) dig
  rw [h] at aa
  simp only [F_is_decimal, g_is_decimal]
  simp [fnB, plainA, Sl.own, doS, bnd, getV, pur, op2, deref, Sl.pv, lift, fnR, outs, seq, nxt, ifS, toB, orT, chainT, bltV, derefs, sLe, sIc, sI, ln, c1, c2, lcV, frz, itemsS_tx, lc4, aa]
theorem num_dig : (TL.numL n).all dig = true := by
  rw [List.all_eq_true]
  intro c hc
  have := TL.numL_digits n c hc
  unfold dig
  simp
  exact this
theorem decimal_num (hn : n < 10 ^ 31) : bk0 (F_is_decimal [.fz (tx (TL.numL n)), .fz (I lo), .fz (I hi)]) ρ = .ok (.fz (.at (.bl (decide (lo ≤ n) && decide ((n : Int) ≤ hi))))) ρ := by
  have h1 := numL_len 30 n hn
  have h0 : 0 < (TL.numL n).length := List.length_pos_iff.mpr (TL.numL_ne n)
  have sz : (TL.numL n).length ≤ sizeLine := Nat.le_trans h1 (by decide)
  have ln := sLen_tx sz
  have c1 : (1 : Int) ≤ (TL.numL n).length := by omega
  have c2 : ((TL.numL n).length : Int) ≤ 31 := by omega
  have lc4 := dec_lc (E := [some (.fz (tx (TL.numL n))), some (.fz (I lo)), some (.fz (I hi)), none]) h1 (by simp)
  have aa := all_bl (l := TL.numL n) dig
  rw [num_dig] at aa
  have it := sInt_num (n := n) (by omega)
  have eq := sEq_tx (a := TL.numL n) (b := [48])
  have ch : ∀ ρ', chainV sLe sLe (getV 1) (bnd (bnd (getV 0) fun x => bnd (pur []) fun xs => pur (x :: xs)) fun xs => bltV sInt xs) (getV 2) (some (.fz (tx (TL.numL n))) :: some (.fz (I lo)) :: some (.fz (I hi)) :: ρ') = .ok (.fz (.at (.bl (decide (lo ≤ n) && decide ((n : Int) ≤ hi))))) (some (.fz (tx (TL.numL n))) :: some (.fz (I lo)) :: some (.fz (I hi)) :: ρ') := fun ρ' => by
    by_cases z : lo ≤ n <;> simp [chainV, bnd, getV, pur, op2, deref, lift, bltV, derefs, it, sLe, sIc, sI, toB, z]
  have ov : ∀ ρ' : B.Env, orV (bnd (getV 0) fun x => bnd (pur (.fz (.at (.str (SX.S [48]))))) fun y => op2 sEq x y) (bnd (bnd (getV 0) fun x => bnd (pur (.fz (.at (.int 0)))) fun y => op2 sIx x y) fun x => bnd (pur (.fz (.at (.str (SX.S [48]))))) fun y => op2 sNe x y) (some (.fz (tx (TL.numL n))) :: ρ') = .ok (.fz (.at (.bl true))) (some (.fz (tx (TL.numL n))) :: ρ') := fun ρ' => by
    by_cases z : n = 0
    · subst z
      have e0 : TL.numL 0 = [48] := TL.numL_lt (by decide)
      simp only [e0] at eq ⊢
      simp [orV, bnd, getV, pur, op2, deref, lift, eq, toB]
    · obtain ⟨c, l, e, hc⟩ := numL_head0 n (by omega)
      have ix := sIx_tx (l := c :: l) (i := 0) (by rw [← e]; exact sz) atI_zero
      have ne := sNe_tx (a := [c]) (b := [48])
      rw [e] at eq
      simp only [e]
      have hne : ¬ (c = 48 ∧ l = []) := fun h => hc h.1
      simp [orV, bnd, getV, pur, op2, deref, lift, eq, toB, hc, ix, ne]
  simp only [F_is_decimal, g_is_decimal, k_0]
  generalize (orV (bnd (getV 0) fun x => bnd (pur (.fz (.at (.str (SX.S [48]))))) fun y => op2 sEq x y) (bnd (bnd (getV 0) fun x => bnd (pur (.fz (.at (.int 0)))) fun y => op2 sIx x y) fun x => bnd (pur (.fz (.at (.str (SX.S [48]))))) fun y => op2 sNe x y)) = OV at *
  generalize (chainV sLe sLe (getV 1) (bnd (bnd (getV 0) fun x => bnd (pur []) fun xs => pur (x :: xs)) fun xs => bltV sInt xs) (getV 2)) = CV at *
  simp [fnB, plainA, Sl.own, doS, bnd, getV, pur, op2, deref, Sl.pv, lift, fnR, outs, seq, nxt, ifS, toB, orT, chainT, bltV, derefs, sLe, sIc, sI, ln, c1, c2, lcV, frz, itemsS_tx, lc4, aa, andV, ov, ch]
theorem chainB {a b : Bool} : (if a then b else false) = (a && b) := by cases a <;> rfl
/-- an alignment's word -/
theorem align_word {k : Nat} (h : 1 ≤ k) (hk : k ≤ 60) : bk0 (F_is_align_word [.fz (tx (64 :: TL.numL (2 ^ k)))]) ρ = .ok (.fz (.at (.bl true))) ρ := by
  have b1 : 2 ^ k < 10 ^ 31 := Nat.lt_of_le_of_lt (Nat.pow_le_pow_right (by decide) hk) (by decide)
  have ln := numL_len 30 (2 ^ k) b1
  have hd := slV_head (c := 64) (l := TL.numL (2 ^ k)) (Nat.le_trans (Nat.succ_le_succ ln) (by decide))
  have tl := slV_tail (c := 64) (l := TL.numL (2 ^ k)) (Nat.le_trans (Nat.succ_le_succ ln) (by decide))
  have it := sInt_num (n := 2 ^ k) (by omega)
  have pw : Pw (2 ^ k) := ⟨k, hk, rfl⟩
  have e1 := fun ρ => e_is_power (ρ := ρ) pw
  have e2 := fun ρ => decimal_num (ρ := ρ) (n := 2 ^ k) (lo := 2) (hi := 1152921504606846976) b1
  have g1 : (2 : Nat) ≤ 2 ^ k := Nat.le_trans (by decide) (Nat.pow_le_pow_right (n := 2) (by decide) h)
  have g2 : (2 : Nat) ^ k ≤ 2 ^ 60 := Nat.pow_le_pow_right (by decide) hk
  have c1 : (2 : Int) ≤ ((2 ^ k : Nat) : Int) := by exact_mod_cast g1
  have c2 : ((2 ^ k : Nat) : Int) ≤ 1152921504606846976 := by
    have : (1152921504606846976 : Int) = ((2 ^ 60 : Nat) : Int) := by decide
    rw [this]
    exact_mod_cast g2
  have cst : ((2 ^ k : Nat) : Int) = (2 : Int) ^ k := Int.natCast_pow 2 k
  rw [cst] at it e2 c1 c2
  simp only [c1, c2, decide_true, Bool.and_true] at e2
  have eq := sEq_tx (a := [64]) (b := [64])
  simp only [F_is_align_word, g_is_align_word, k_at]
  simp [fnB, plainA, Sl.own, doS, bnd, getV, pur, op2, deref, Sl.pv, lift, fnR, outs, toB, andV, toI, hd, tl, eq, e2, bltV, derefs, it, e1]
theorem not_align {c : Nat} (h : c ≠ 64) (hl : l.length ≤ 100) : bk0 (F_is_align_word [.fz (tx (c :: l))]) ρ = .ok (.fz (.at (.bl false))) ρ := by
  have hd := slV_head (c := c) (l := l) (Nat.le_trans (Nat.succ_le_succ hl) (by decide))
  have eq := sEq_tx (a := [c]) (b := [64])
  simp only [F_is_align_word, g_is_align_word, k_at]
  simp [fnB, plainA, Sl.own, doS, bnd, getV, pur, op2, deref, Sl.pv, lift, fnR, outs, toB, andV, toI, hd, eq, h]
def lab (s : List Nat) : Prop := 1 ≤ s.length ∧ s.length ≤ 8 ∧ s.all sml = true
theorem letters_ok (h : lab l) : bk0 (F_is_letters [.fz (tx l)]) ρ = .ok (.fz (.at (.bl true))) ρ := by
  obtain ⟨h1, h2, h3⟩ := h
  have sz : l.length ≤ sizeLine := Nat.le_trans h2 (by decide)
  have ln := sLen_tx sz
  have c1 : (1 : Int) ≤ l.length := by omega
  have c2 : (l.length : Int) ≤ 8 := by omega
  have lc4 : lcN (tgN 1) [1] (pur true) x_is_letters_1 (l.map fun c => tx [c]) [some (.fz (tx l)), none] = .ok (.nw (.ow (l.map fun c => .at (.bl (sml c))))) [some (.fz (tx l)), none] := lcS_map (fun c => .at (.bl (sml c))) sz fun c hc => by
    have e := sInS_tx (c := c) (l := [97, 98, 99, 100, 101, 102, 103, 104, 105, 106, 107, 108, 109, 110, 111, 112, 113, 114, 115, 116, 117, 118, 119, 120, 121, 122])
    rw [sml_mem] at e
    simp only [x_is_letters_1, k_small]
    simp [bnd, getV, pur, op2, deref, lift, e]
  have aa := all_bl (l := l) sml
  rw [h3] at aa
  simp only [F_is_letters, g_is_letters]
  simp [fnB, plainA, Sl.own, doS, bnd, getV, pur, op2, deref, Sl.pv, lift, fnR, outs, toB, andV, isiV, PV.kd, isi_str, chainV, bltV, derefs, sLe, sIc, sI, ln, c1, c2, lcV, frz, itemsS_tx, lc4, aa]
/-! single words -/
theorem single_num (h : n ≤ 10 ^ 30) : bk0 (F_is_single [.fz (tx (TL.numL n))]) ρ = .ok (.fz (.at (.bl true))) ρ := by
  have e2 := fun ρ => decimal_num (ρ := ρ) (n := n) (lo := 0) (hi := 1000000000000000000000000000000) (Nat.lt_of_le_of_lt h (by decide))
  have c2 : (n : Int) ≤ 1000000000000000000000000000000 := by
    have : (1000000000000000000000000000000 : Int) = ((10 ^ 30 : Nat) : Int) := by decide
    rw [this]
    exact_mod_cast h
  have c1 : (0 : Int) ≤ n := Int.natCast_nonneg n
  simp only [c1, c2, decide_true, Bool.and_true] at e2
  simp only [F_is_single, g_is_single]
  simp [fnB, plainA, Sl.own, doS, bnd, getV, pur, op2, deref, Sl.pv, lift, fnR, outs, toB, orV, e2]
theorem single_align {k : Nat} (h : 1 ≤ k) (hk : k ≤ 60) : bk0 (F_is_single [.fz (tx (64 :: TL.numL (2 ^ k)))]) ρ = .ok (.fz (.at (.bl true))) ρ := by
  have b1 : 2 ^ k < 10 ^ 20 := Nat.lt_of_le_of_lt (Nat.pow_le_pow_right (by decide) hk) (by decide)
  have ln := numL_len 19 (2 ^ k) b1
  have e1 := fun ρ => decimal_not (ρ := ρ) (l := 64 :: TL.numL (2 ^ k)) (lo := 0) (hi := 1000000000000000000000000000000) (by simp) (by simp; omega) (by simp [dig])
  have e2 := fun ρ => align_word (ρ := ρ) h hk
  simp only [F_is_single, g_is_single]
  simp [fnB, plainA, Sl.own, doS, bnd, getV, pur, op2, deref, Sl.pv, lift, fnR, outs, toB, orV, e1, e2]
theorem single_label (h : lab l) : bk0 (F_is_single [.fz (tx (l ++ [58]))]) ρ = .ok (.fz (.at (.bl true))) ρ := by
  have h1 := h.1
  have h2 := h.2.1
  have e1 := fun ρ => decimal_not (ρ := ρ) (l := l ++ [58]) (lo := 0) (hi := 1000000000000000000000000000000) (by simp) (by simp; omega) (by simp [dig])
  have ct : ∃ c m, l ++ [58] = c :: m ∧ c ≠ 64 ∧ m.length ≤ 100 := by
    cases l with
    | nil => simp at h1
    | cons c m =>
      have := h.2.2
      simp only [List.all_cons, Bool.and_eq_true, sml, decide_eq_true_eq] at this
      refine ⟨c, m ++ [58], rfl, by omega, ?_⟩
      simp at h2 ⊢
      omega
  obtain ⟨c, m, e, hc, hm⟩ := ct
  have e2 := fun ρ => not_align (ρ := ρ) hc hm
  rw [← e] at e2
  have la := slV_last (c := 58) (l := l) (Nat.le_trans (Nat.succ_le_succ h2) (by decide))
  have it := slV_init (c := 58) (l := l) (Nat.le_trans (Nat.succ_le_succ h2) (by decide))
  have eq := sEq_tx (a := [58]) (b := [58])
  have e3 := fun ρ => letters_ok (ρ := ρ) h
  simp only [F_is_single, g_is_single, k_col]
  simp [fnB, plainA, Sl.own, doS, bnd, getV, pur, op2, deref, Sl.pv, lift, fnR, outs, toB, orV, andV, e1, e2, toI, op1, sNeg, la, it, eq, e3]
end
end L

set_option Elab.async false
set_option linter.all false
set_option maxRecDepth 100000
set_option maxHeartbeats 4000000
namespace L
open PySem L2 B
/-! ### layouts as trees -/
inductive T where
  | nil
  | size (n : Nat) (r : T)
  | align (k : Nat) (r : T)
  | label (s : List Nat) (r : T)
  | rep (t : Nat) (b r : T)
  | both (x y r : T)
deriving DecidableEq
namespace T
def words : T → List (List Nat)
  | nil => []
  | size n r => TL.numL n :: words r
  | align k r => (64 :: TL.numL (2 ^ k)) :: words r
  | label s r => (s ++ [58]) :: words r
  | rep t b r => [40] :: (words b ++ (41 :: TL.numL t) :: words r)
  | both x y r => [123] :: (words x ++ [124] :: (words y ++ [125] :: words r))
def len : T → Nat
  | nil => 0
  | size _ r => len r + 1
  | align _ r => len r + 1
  | label _ r => len r + 1
  | rep _ b r => len b + len r + 2
  | both x y r => len x + len y + len r + 3
def dp : T → Nat
  | nil => 0
  | size _ r => dp r
  | align _ r => dp r
  | label _ r => dp r
  | rep _ b r => max (dp b + 1) (dp r)
  | both x y r => max (max (dp x) (dp y) + 1) (dp r)
def nov : T → Nat
  | nil => 0
  | size _ r => nov r
  | align _ r => nov r
  | label _ r => nov r
  | rep _ b r => nov b + nov r
  | both x y r => nov x + nov y + nov r + 1
/-- b: within a repeat -/
def ok : Bool → T → Prop
  | _, nil => True
  | b, size n r => n ≤ 10 ^ 30 ∧ ok b r
  | b, align k r => 1 ≤ k ∧ k ≤ 60 ∧ ok b r
  | b, label s r => lab s ∧ ok b r
  | b, rep t x r => 2 ≤ t ∧ t ≤ 10 ^ 30 ∧ x ≠ nil ∧ ok true x ∧ ok b r
  | b, both x y r => b = false ∧ ok false x ∧ ok false y ∧ ok b r
def nodes : Nat → T → List PV
  | _, nil => []
  | i, size n r => .tup [.at (.str "size"), I n, I i] :: nodes (i + 1) r
  | i, align k r => .tup [.at (.str "align"), I ((2 ^ k : Nat) : Int), I i] :: nodes (i + 1) r
  | i, label s r => .tup [.at (.str "label"), tx s, I i] :: nodes (i + 1) r
  | i, rep t b r => .tup [.at (.str "repeat"), I t, .tup (nodes (i + 1) b), I i] :: nodes (i + b.len + 2) r
  | i, both x y r => .tup [.at (.str "overlay"), .tup (nodes (i + 1) x), .tup (nodes (i + x.len + 2) y), I i] :: nodes (i + x.len + y.len + 3) r
theorem words_len : ∀ t : T, t.words.length = t.len
  | nil => rfl
  | size n r => by simp [words, len, words_len r]
  | align k r => by simp [words, len, words_len r]
  | label s r => by simp [words, len, words_len r]
  | rep t b r => by simp [words, len, words_len r, words_len b]; omega
  | both x y r => by simp [words, len, words_len r, words_len x, words_len y]; omega
end T
/-! ### first_wrong -/
abbrev fr (k : Str) (f : Bool) : PV := .tup [.at (.str k), .at (.bl f)]
/-- a label's word stands nowhere in front -/
def Dis (W : List (List Nat)) : Prop := ∀ p w q, W = p ++ (w ++ [58]) :: q → (w ++ [58]) ∉ p
section
variable {W : List (List Nat)} {fs : List PV} {k : Str} {f : Bool} {ov : Int} {i : Nat} {w : List Nat} {o5 o6 : Option Sl}
abbrev fE (W : List (List Nat)) (fr : List PV) (ov : Int) (i : Nat) (w : List Nat) (o5 o6 : Option Sl) : B.Env := [some (.fz (.lst (W.map tx))), some (.fz (.lst fr)), some (.fz (.at (.int ov))), some (.fz (.at (.int i))), some (.fz (tx w)), o5, o6]
theorem fs_last {p : PV} : sIx (.lst (fs ++ [p])) (.at (.int (-1))) = some (.fz p) := by
  show (atI (fs ++ [p]) (-1)).map _ = _
  unfold atI ixN
  have : (-1 + ((fs.length : Int) + 1)).toNat = fs.length := by omega
  have h1 : (1 : Int) ≤ (fs.length : Int) + 1 := by omega
  simp [h1, this]
theorem fs_init {p : PV} : slV (.lst (fs ++ [p])) none (some (-1)) = some (.nw (.ow fs)) := by
  show some (EV.nw (.ow (cutP (fs ++ [p]) none (some (-1))))) = _
  unfold cutP
  have : (-1 + ((fs.length : Int) + 1)).toNat = fs.length := by omega
  simp [HT.sIx, this]
theorem w_take : slV (.lst (W.map tx)) none (some (i : Int)) = some (.nw (.ow ((W.take i).map tx))) := by
  show some (EV.nw (.ow (cutP (W.map tx) none (some (i : Int))))) = _
  unfold cutP
  have : ¬ ((i : Int) < 0) := by omega
  simp [HT.sIx, this]
theorem fw_pre (hi : i < 400) : g_first_wrong_10 (fE W (fs ++ [fr k f]) ov i w o5 o6) = g_first_wrong_9 (fE W (fs ++ [fr k f]) ov i w (some (.fz (.at (.str k)))) (some (.fz (.at (.bl f))))) := by
  have h1 : ¬ (400 : Int) ≤ i := by omega
  simp only [g_first_wrong_10]
  simp [fnB, plainA, Sl.own, doS, bnd, getV, pur, op2, deref, Sl.pv, lift, sPlus, sSub, sMul, sDiv, sMod, sPow, powC, modC, oor, sAdd, sI, sIc, fnR, outs, seq, nxt, unpS, tgT, tgs, tgN, ifS, tupV, lstV, frzs, frz, sLe, sLt, sGt, sGe, sAnd, toB, atI, ixN, setS, setIx, setFld, putN, orT, andV, andT, isiV, PV.kd, fldV, ownsA, chkI, chkN, chkK, parS, pass1, op1, sNeg, fs_last, h1]
/-- a word that is none of the brackets -/
def plainW (w : List Nat) : Prop := w ≠ [40] ∧ w ≠ [123] ∧ w ≠ [124] ∧ w ≠ [125] ∧ ∃ c m, w = c :: m ∧ c ≠ 41 ∧ m.length ≤ 100
theorem fw_single (hp : plainW w) (hl : fs.length ≤ 100) (hs : ∀ ρ, bk0 (F_is_single [.fz (tx w)]) ρ = .ok (.fz (.at (.bl true))) ρ) (hd : ∀ v, w = v ++ [58] → w ∉ W.take i) : g_first_wrong_9 (fE W (fs ++ [fr k f]) ov i w (some (.fz (.at (.str k)))) (some (.fz (.at (.bl f))))) = .nx (fE W (fs ++ [fr k true]) ov i w (some (.fz (.at (.str k)))) (some (.fz (.at (.bl f))))) := by
  obtain ⟨h1, h2, h3, h4, c, m, rfl, h5, hm⟩ := hp
  have hd1 := slV_head (c := c) (l := m) (Nat.le_trans (Nat.succ_le_succ hm) (by decide))
  have e1 := sEq_tx (a := c :: m) (b := [40])
  have e2 := sEq_tx (a := c :: m) (b := [123])
  have e3 := sEq_tx (a := c :: m) (b := [124])
  have e4 := sEq_tx (a := c :: m) (b := [125])
  have e5 := sEq_tx (a := [c]) (b := [41])
  have i1 := sIn_tx (neg := false) (a := c :: m) (ws := W.take i)
  rw [List.map_take] at i1
  have ix2 : sIx (fr k f) (.at (.int 0)) = some (.fz (.at (.str k))) := rfl
  obtain ⟨z, v, hz⟩ : ∃ z v, c :: m = v ++ [z] := ⟨(c :: m).getLast (by simp), (c :: m).dropLast, (List.dropLast_concat_getLast (by simp)).symm⟩
  have hv : v.length ≤ 100 := by
    have := congrArg List.length hz
    simp at this
    omega
  have la := slV_last (c := z) (l := v) (Nat.le_trans (Nat.succ_le_succ hv) (by decide))
  rw [← hz] at la
  have e6 := sEq_tx (a := [z]) (b := [58])
  rw [decide_eq_false h1] at e1
  rw [decide_eq_false h2] at e2
  rw [decide_eq_false h3] at e3
  rw [decide_eq_false h4] at e4
  rw [decide_eq_false (by simpa using h5)] at e5
  have lb : (c :: m) ∈ W.take i → z ≠ 58 := fun hw hz8 => by
    subst hz8
    exact hd v hz hw
  have sz : fs.length + 1 ≤ sizeLine := Nat.le_trans (Nat.succ_le_succ hl) (by decide)
  simp only [g_first_wrong_9, g_first_wrong_7, g_first_wrong_8, k_op, k_ob, k_bar, k_cb, k_cl, k_col]
  by_cases hw : (c :: m) ∈ W.take i
  · have hz8 := lb hw
    have e6' : sEq (tx [z]) (tx [58]) = some (.fz (.at (.bl false))) := by rw [e6]; simp [hz8]
    rw [decide_eq_true hw] at i1
    simp [fnB, plainA, Sl.own, doS, bnd, getV, pur, op2, deref, Sl.pv, lift, sPlus, sSub, sMul, sDiv, sMod, sPow, powC, modC, oor, sAdd, sI, sIc, fnR, outs, seq, nxt, unpS, tgT, tgs, tgN, ifS, tupV, lstV, frzs, frz, sLe, sLt, sGt, sGe, sAnd, toB, atI, ixN, setS, setIx, setFld, putN, orT, andV, andT, isiV, PV.kd, fldV, ownsA, chkI, chkN, chkK, parS, pass1, op1, sNeg, fs_last, fs_init, w_take, toI, hd1, e1, e2, e3, e4, e5, i1, la, e6', hs, atI_zero, ix2, sCatL, sCatS, sz]
  · rw [decide_eq_false hw] at i1
    simp [fnB, plainA, Sl.own, doS, bnd, getV, pur, op2, deref, Sl.pv, lift, sPlus, sSub, sMul, sDiv, sMod, sPow, powC, modC, oor, sAdd, sI, sIc, fnR, outs, seq, nxt, unpS, tgT, tgs, tgN, ifS, tupV, lstV, frzs, frz, sLe, sLt, sGt, sGe, sAnd, toB, atI, ixN, setS, setIx, setFld, putN, orT, andV, andT, isiV, PV.kd, fldV, ownsA, chkI, chkN, chkK, parS, pass1, op1, sNeg, fs_last, fs_init, w_take, toI, hd1, e1, e2, e3, e4, e5, i1, la, hs, atI_zero, ix2, sCatL, sCatS, sz]
theorem sEq_st {a b : Str} : sEq (.at (.str a)) (.at (.str b)) = some (.fz (.at (.bl (decide (a = b))))) := by
  simp [sEq, oor, sEqA, scal]
theorem sNe_st {a b : Str} : sNe (.at (.str a)) (.at (.str b)) = some (.fz (.at (.bl (!decide (a = b))))) := by
  simp [sNe, oor, sNeA, scal]
theorem sLen_lst {ps : List PV} : sLen [.lst ps] = some (.fz (.at (.int ps.length))) := rfl
theorem fw_open (hl : fs.length + 1 ≤ 12) : g_first_wrong_9 (fE W (fs ++ [fr k f]) ov i [40] o5 o6) = .nx (fE W ((fs ++ [fr k f]) ++ [fr "repeat" false]) ov i [40] o5 o6) := by
  have e1 := sEq_tx (a := [40]) (b := [40])
  have c1 : ¬ (12 : Int) < (fs.length : Int) + 1 := by omega
  have sz : fs.length + 1 + 1 ≤ sizeLine := Nat.le_trans (Nat.succ_le_succ hl) (by decide)
  have ln := sLen_lst (ps := fs ++ [fr k f])
  simp only [g_first_wrong_9, g_first_wrong_1, g_first_wrong_2, k_op, k_ob, k_bar, k_cb, k_cl, k_col]
  simp [fnB, plainA, Sl.own, doS, bnd, getV, pur, op2, deref, Sl.pv, lift, sPlus, sSub, sMul, sDiv, sMod, sPow, powC, modC, oor, sAdd, sI, sIc, fnR, outs, seq, nxt, unpS, tgT, tgs, tgN, ifS, tupV, lstV, frzs, frz, sLe, sLt, sGt, sGe, sAnd, toB, atI, ixN, setS, setIx, setFld, putN, orT, andV, andT, isiV, PV.kd, fldV, ownsA, chkI, chkN, chkK, parS, pass1, e1, bltV, derefs, ln, c1, sCatL, sCatS, sz]
theorem fw_ob (hl : fs.length + 1 ≤ 12) (ho : ov ≠ 6) (hk : k ≠ "repeat") : g_first_wrong_9 (fE W (fs ++ [fr k f]) ov i [123] (some (.fz (.at (.str k)))) o6) = .nx (fE W ((fs ++ [fr k f]) ++ [fr "first" false]) (ov + 1) i [123] (some (.fz (.at (.str k)))) o6) := by
  have e1 := sEq_tx (a := [123]) (b := [40])
  have e2 := sEq_tx (a := [123]) (b := [123])
  have e3 := sEq_st (a := k) (b := "repeat")
  rw [decide_eq_false hk] at e3
  have c1 : ¬ (12 : Int) < (fs.length : Int) + 1 := by omega
  have sz : fs.length + 1 + 1 ≤ sizeLine := Nat.le_trans (Nat.succ_le_succ hl) (by decide)
  have ln := sLen_lst (ps := fs ++ [fr k f])
  simp only [g_first_wrong_9, g_first_wrong_3, g_first_wrong_4, k_op, k_ob, k_bar, k_cb, k_cl, k_col]
  simp [fnB, plainA, Sl.own, doS, bnd, getV, pur, op2, deref, Sl.pv, lift, sPlus, sSub, sMul, sDiv, sMod, sPow, powC, modC, oor, sAdd, sI, sIc, fnR, outs, seq, nxt, unpS, tgT, tgs, tgN, ifS, tupV, lstV, frzs, frz, sLe, sLt, sGt, sGe, sAnd, toB, atI, ixN, setS, setIx, setFld, putN, orT, andV, andT, isiV, PV.kd, fldV, ownsA, chkI, chkN, chkK, parS, pass1, e1, e2, e3, ho, bltV, derefs, ln, c1, sCatL, sCatS, sz]
theorem fw_bar {p : PV} (hl : fs.length ≤ 100) : g_first_wrong_9 (fE W (fs ++ [p]) ov i [124] (some (.fz (.at (.str "first")))) o6) = .nx (fE W (fs ++ [fr "second" false]) ov i [124] (some (.fz (.at (.str "first")))) o6) := by
  have e1 := sEq_tx (a := [124]) (b := [40])
  have e2 := sEq_tx (a := [124]) (b := [123])
  have e3 := sEq_tx (a := [124]) (b := [124])
  have e4 := sNe_st (a := "first") (b := "first")
  have sz : fs.length + 1 ≤ sizeLine := Nat.le_trans (Nat.succ_le_succ hl) (by decide)
  simp only [g_first_wrong_9, g_first_wrong_5, k_op, k_ob, k_bar, k_cb, k_cl, k_col]
  simp [fnB, plainA, Sl.own, doS, bnd, getV, pur, op2, deref, Sl.pv, lift, sPlus, sSub, sMul, sDiv, sMod, sPow, powC, modC, oor, sAdd, sI, sIc, fnR, outs, seq, nxt, unpS, tgT, tgs, tgN, ifS, tupV, lstV, frzs, frz, sLe, sLt, sGt, sGe, sAnd, toB, atI, ixN, setS, setIx, setFld, putN, orT, andV, andT, isiV, PV.kd, fldV, ownsA, chkI, chkN, chkK, parS, pass1, op1, sNeg, toI, e1, e2, e3, e4, fs_init, sCatL, sCatS, sz]
theorem fw_cb {p : PV} (hl : fs.length ≤ 100) : g_first_wrong_9 (fE W ((fs ++ [fr k f]) ++ [p]) ov i [125] (some (.fz (.at (.str "second")))) o6) = .nx (fE W (fs ++ [fr k true]) ov i [125] (some (.fz (.at (.str "second")))) o6) := by
  have e1 := sEq_tx (a := [125]) (b := [40])
  have e2 := sEq_tx (a := [125]) (b := [123])
  have e3 := sEq_tx (a := [125]) (b := [124])
  have e5 := sEq_tx (a := [125]) (b := [125])
  have e6 := sEq_tx (a := [125]) (b := [41])
  have hd := slV_head (c := 125) (l := []) (by decide)
  have e4 := sNe_st (a := "second") (b := "second")
  have sz : fs.length + 1 ≤ sizeLine := Nat.le_trans (Nat.succ_le_succ hl) (by decide)
  have ix2 : sIx (fr k f) (.at (.int 0)) = some (.fz (.at (.str k))) := rfl
  have f1 := fs_init (fs := fs ++ [fr k f]) (p := p)
  simp only [List.append_assoc, List.cons_append, List.nil_append] at f1
  simp only [g_first_wrong_9, g_first_wrong_7, g_first_wrong_8, k_op, k_ob, k_bar, k_cb, k_cl, k_col]
  simp [fnB, plainA, Sl.own, doS, bnd, getV, pur, op2, deref, Sl.pv, lift, sPlus, sSub, sMul, sDiv, sMod, sPow, powC, modC, oor, sAdd, sI, sIc, fnR, outs, seq, nxt, unpS, tgT, tgs, tgN, ifS, tupV, lstV, frzs, frz, sLe, sLt, sGt, sGe, sAnd, toB, atI, ixN, setS, setIx, setFld, putN, orT, andV, andT, isiV, PV.kd, fldV, ownsA, chkI, chkN, chkK, parS, pass1, op1, sNeg, toI, e1, e2, e3, e4, e5, e6, hd, f1, fs_init, fs_last, ix2, sCatL, sCatS, sz]
theorem fw_close {t : Nat} (hl : fs.length ≤ 100) (h2 : 2 ≤ t) (ht : t ≤ 10 ^ 30) : g_first_wrong_9 (fE W ((fs ++ [fr k f]) ++ [fr "repeat" true]) ov i (41 :: TL.numL t) (some (.fz (.at (.str "repeat")))) (some (.fz (.at (.bl true))))) = .nx (fE W (fs ++ [fr k true]) ov i (41 :: TL.numL t) (some (.fz (.at (.str "repeat")))) (some (.fz (.at (.bl true))))) := by
  have b1 : t < 10 ^ 31 := Nat.lt_of_le_of_lt ht (by decide)
  have lnn := numL_len 30 t b1
  have ne : TL.numL t ≠ [] := TL.numL_ne t
  have e1 := sEq_tx (a := 41 :: TL.numL t) (b := [40])
  have e2 := sEq_tx (a := 41 :: TL.numL t) (b := [123])
  have e3 := sEq_tx (a := 41 :: TL.numL t) (b := [124])
  have e6 := sEq_tx (a := [41]) (b := [41])
  simp only [List.cons.injEq, reduceCtorEq, false_and, decide_false, Nat.reduceEqDiff] at e1 e2 e3
  have hd := slV_head (c := 41) (l := TL.numL t) (Nat.le_trans (Nat.succ_le_succ lnn) (by decide))
  have tl := slV_tail (c := 41) (l := TL.numL t) (Nat.le_trans (Nat.succ_le_succ lnn) (by decide))
  have e4 := sNe_st (a := "repeat") (b := "repeat")
  have sz : fs.length + 1 ≤ sizeLine := Nat.le_trans (Nat.succ_le_succ hl) (by decide)
  have ix2 : sIx (fr k f) (.at (.int 0)) = some (.fz (.at (.str k))) := rfl
  have f1 := fs_init (fs := fs ++ [fr k f]) (p := fr "repeat" true)
  simp only [List.append_assoc, List.cons_append, List.nil_append] at f1
  have dn := fun ρ => decimal_num (ρ := ρ) (n := t) (lo := 2) (hi := 1000000000000000000000000000000) b1
  have c1 : (2 : Int) ≤ t := by omega
  have c2 : (t : Int) ≤ 1000000000000000000000000000000 := by
    have : (1000000000000000000000000000000 : Int) = ((10 ^ 30 : Nat) : Int) := by decide
    rw [this]
    exact_mod_cast ht
  simp only [c1, c2, decide_true, Bool.and_true] at dn
  simp only [g_first_wrong_9, g_first_wrong_7, g_first_wrong_6, g_first_wrong_8, k_op, k_ob, k_bar, k_cb, k_cl, k_col]
  simp [fnB, plainA, Sl.own, doS, bnd, getV, pur, op2, deref, Sl.pv, lift, sPlus, sSub, sMul, sDiv, sMod, sPow, powC, modC, oor, sAdd, sI, sIc, fnR, outs, seq, nxt, unpS, tgT, tgs, tgN, ifS, tupV, lstV, frzs, frz, sLe, sLt, sGt, sGe, sAnd, toB, atI, ixN, setS, setIx, setFld, putN, orT, andV, andT, isiV, PV.kd, fldV, ownsA, chkI, chkN, chkK, parS, pass1, op1, sNeg, toI, e1, e2, e3, e4, e6, hd, tl, dn, f1, fs_init, fs_last, ix2, sCatL, sCatS, sz]
end
end L

set_option Elab.async false
set_option linter.all false
set_option maxRecDepth 100000
set_option maxHeartbeats 4000000
namespace L
open PySem L2 B
abbrev tg34 : TgS := tgT [(tgN 3), (tgN 4)]
abbrev fE0 (W : List (List Nat)) (fr : List PV) (ov : Int) (o3 o4 o5 o6 : Option Sl) : B.Env := [some (.fz (.lst (W.map tx))), some (.fz (.lst fr)), some (.fz (.at (.int ov))), o3, o4, o5, o6]
section
variable {W : List (List Nat)} {fs fr' : List PV} {k : Str} {f : Bool} {ov ov' : Int} {i : Nat} {w : List Nat} {o3 o4 o5 o6 o5' o6' : Option Sl} {ws : List (List Nat)}
theorem fw_step (hi : i < 400) (h : g_first_wrong_9 (fE W (fs ++ [fr k f]) ov i w (some (.fz (.at (.str k)))) (some (.fz (.at (.bl f))))) = .nx (fE W fr' ov' i w o5' o6')) :
    forS tg34 g_first_wrong_10 (enumL i ((w :: ws).map tx)) (fE0 W (fs ++ [fr k f]) ov o3 o4 o5 o6) = forS tg34 g_first_wrong_10 (enumL (i + 1) (ws.map tx)) (fE0 W fr' ov' (some (.fz (.at (.int i)))) (some (.fz (tx w))) o5' o6') := by
  show forS tg34 g_first_wrong_10 (.tup [.at (.int i), tx w] :: enumL (i + 1) (ws.map tx)) _ = _
  refine forS_nx (ρ1 := fE W (fs ++ [fr k f]) ov i w o5 o6) rfl ?_
  rw [fw_pre hi]
  exact h
def T.ne : T → Bool
  | .nil => false
  | _ => true
theorem num_plain {n : Nat} (h : n ≤ 10 ^ 30) : plainW (TL.numL n) := by
  have l := numL_len 30 n (Nat.lt_of_le_of_lt h (by decide))
  have d := TL.numL_digits n
  obtain ⟨c, m, e⟩ : ∃ c m, TL.numL n = c :: m := by
    cases hh : TL.numL n with
    | nil => exact absurd hh (TL.numL_ne n)
    | cons c m => exact ⟨c, m, rfl⟩
  have hc := d c (by rw [e]; simp)
  rw [e] at l ⊢
  refine ⟨?_, ?_, ?_, ?_, c, m, rfl, by omega, by simp at l; omega⟩ <;> (simp; intro q; omega)
theorem align_plain {j : Nat} (h : j ≤ 60) : plainW (64 :: TL.numL (2 ^ j)) := by
  have l := numL_len 30 (2 ^ j) (Nat.lt_of_le_of_lt (Nat.pow_le_pow_right (by decide) h) (by decide))
  exact ⟨by simp, by simp, by simp, by simp, 64, _, rfl, by decide, by omega⟩
theorem label_plain {s : List Nat} (h : lab s) : plainW (s ++ [58]) := by
  obtain ⟨h1, h2, h3⟩ := h
  cases s with
  | nil => simp at h1
  | cons c m =>
    simp only [List.all_cons, Bool.and_eq_true, sml, decide_eq_true_eq] at h3
    refine ⟨?_, ?_, ?_, ?_, c, m ++ [58], rfl, by omega, by simp at h2 ⊢; omega⟩ <;> simp
theorem num_nolab {n : Nat} {v : List Nat} (h : TL.numL n = v ++ [58]) : False := by
  have := TL.numL_digits n 58 (by rw [h]; simp)
  omega
theorem align_nolab {n : Nat} {v : List Nat} (h : 64 :: TL.numL n = v ++ [58]) : False := by
  cases v with
  | nil => simp at h
  | cons c v =>
    simp only [List.cons_append, List.cons.injEq] at h
    exact num_nolab h.2
theorem fw_tree (hW : Dis W) : ∀ (t : T) (fs : List PV) (k : Str) (f : Bool) (ov : Int) (i : Nat) (rest pre : List (List Nat)) (o3 o4 o5 o6 : Option Sl),
    t.ok (decide (k = "repeat")) → W = pre ++ (t.words ++ rest) → pre.length = i → i + t.len ≤ 400 → fs.length + t.dp ≤ 12 → ov + t.nov ≤ 6 →
    ∃ p3 p4 p5 p6, forS tg34 g_first_wrong_10 (enumL i ((t.words ++ rest).map tx)) (fE0 W (fs ++ [fr k f]) ov o3 o4 o5 o6) = forS tg34 g_first_wrong_10 (enumL (i + t.len) (rest.map tx)) (fE0 W (fs ++ [fr k (f || t.ne)]) (ov + t.nov) p3 p4 p5 p6)
  | .nil, fs, k, f, ov, i, rest, pre, o3, o4, o5, o6, _, _, _, _, _, _ => ⟨o3, o4, o5, o6, by simp [T.words, T.len, T.ne, T.nov]⟩
  | .size n r, fs, k, f, ov, i, rest, pre, o3, o4, o5, o6, hk, hw, hp, hl, hd, ho => by
    simp only [T.ok] at hk
    simp only [T.words, T.len, T.dp, T.nov, List.cons_append] at hw hl hd ho ⊢
    rw [fw_step (by omega) (fw_single (num_plain hk.1) (by omega) (fun ρ => single_num hk.1) (fun v e => (num_nolab e).elim))]
    obtain ⟨p3, p4, p5, p6, e⟩ := fw_tree hW r fs k true ov (i + 1) rest (pre ++ [TL.numL n]) _ _ _ _ hk.2 (by rw [hw]; simp) (by simp [hp]) (by omega) hd ho
    exact ⟨p3, p4, p5, p6, by rw [e]; simp [T.ne, Nat.add_assoc, Nat.add_comm 1]⟩
  | .align j r, fs, k, f, ov, i, rest, pre, o3, o4, o5, o6, hk, hw, hp, hl, hd, ho => by
    simp only [T.ok] at hk
    simp only [T.words, T.len, T.dp, T.nov, List.cons_append] at hw hl hd ho ⊢
    rw [fw_step (by omega) (fw_single (align_plain hk.2.1) (by omega) (fun ρ => single_align hk.1 hk.2.1) (fun v e => (align_nolab e).elim))]
    obtain ⟨p3, p4, p5, p6, e⟩ := fw_tree hW r fs k true ov (i + 1) rest (pre ++ [64 :: TL.numL (2 ^ j)]) _ _ _ _ hk.2.2 (by rw [hw]; simp) (by simp [hp]) (by omega) hd ho
    exact ⟨p3, p4, p5, p6, by rw [e]; simp [T.ne, Nat.add_assoc, Nat.add_comm 1]⟩
  | .label s r, fs, k, f, ov, i, rest, pre, o3, o4, o5, o6, hk, hw, hp, hl, hd, ho => by
    simp only [T.ok] at hk
    simp only [T.words, T.len, T.dp, T.nov, List.cons_append] at hw hl hd ho ⊢
    rw [fw_step (by omega) (fw_single (label_plain hk.1) (by omega) (fun ρ => single_label hk.1) (fun v e => by
      have h1 := hW pre s _ hw
      have : W.take i = pre := by rw [hw, ← hp]; simp
      rw [this]
      exact h1))]
    obtain ⟨p3, p4, p5, p6, e⟩ := fw_tree hW r fs k true ov (i + 1) rest (pre ++ [s ++ [58]]) _ _ _ _ hk.2 (by rw [hw]; simp) (by simp [hp]) (by omega) hd ho
    exact ⟨p3, p4, p5, p6, by rw [e]; simp [T.ne, Nat.add_assoc, Nat.add_comm 1]⟩
  | .rep t b r, fs, k, f, ov, i, rest, pre, o3, o4, o5, o6, hk, hw, hp, hl, hd, ho => by
    simp only [T.ok] at hk
    obtain ⟨h2, ht, hb, kb, kr⟩ := hk
    simp only [T.words, T.len, T.dp, T.nov, List.cons_append, List.append_assoc] at hw hl hd ho ⊢
    rw [fw_step (by omega) (fw_open (by omega))]
    obtain ⟨p3, p4, p5, p6, e⟩ := fw_tree hW b (fs ++ [fr k f]) "repeat" false ov (i + 1) ((41 :: TL.numL t) :: (r.words ++ rest)) (pre ++ [[40]]) _ _ _ _ (by rw [decide_eq_true rfl]; exact kb) (by rw [hw]; simp) (by simp [hp]) (by omega) (by simp; omega) (by omega)
    rw [e]
    have bn : (false || b.ne) = true := by cases b <;> first | rfl | exact absurd rfl hb
    rw [bn, fw_step (by omega) (fw_close (by omega) h2 ht)]
    obtain ⟨q3, q4, q5, q6, e2⟩ := fw_tree hW r fs k true (ov + b.nov) (i + 1 + b.len + 1) rest (pre ++ [[40]] ++ b.words ++ [41 :: TL.numL t]) _ _ _ _ kr (by rw [hw]; simp) (by simp [hp, T.words_len]; omega) (by omega) (by omega) (by omega)
    refine ⟨q3, q4, q5, q6, ?_⟩
    rw [e2]
    have a1 : i + 1 + b.len + 1 + r.len = i + (b.len + r.len + 2) := by omega
    have a2 : ov + (b.nov : Int) + (r.nov : Int) = ov + ((b.nov + r.nov : Nat) : Int) := by omega
    rw [a1, a2]
    simp [T.ne]
  | .both x y r, fs, k, f, ov, i, rest, pre, o3, o4, o5, o6, hk, hw, hp, hl, hd, ho => by
    simp only [T.ok] at hk
    obtain ⟨hn, kx, ky, kr⟩ := hk
    have hn : k ≠ "repeat" := of_decide_eq_false hn
    simp only [T.words, T.len, T.dp, T.nov, List.cons_append, List.append_assoc] at hw hl hd ho ⊢
    rw [fw_step (by omega) (fw_ob (by omega) (by omega) hn)]
    obtain ⟨p3, p4, p5, p6, e⟩ := fw_tree hW x (fs ++ [fr k f]) "first" false (ov + 1) (i + 1) ([124] :: (y.words ++ ([125] :: (r.words ++ rest)))) (pre ++ [[123]]) _ _ _ _ (by rw [decide_eq_false (by decide)]; exact kx) (by rw [hw]; simp) (by simp [hp]) (by omega) (by simp; omega) (by omega)
    rw [e]
    rw [fw_step (by omega) (fw_bar (by simp; omega))]
    obtain ⟨q3, q4, q5, q6, e2⟩ := fw_tree hW y (fs ++ [fr k f]) "second" false (ov + 1 + x.nov) (i + 1 + x.len + 1) ([125] :: (r.words ++ rest)) (pre ++ [[123]] ++ x.words ++ [[124]]) _ _ _ _ (by rw [decide_eq_false (by decide)]; exact ky) (by rw [hw]; simp) (by simp [hp, T.words_len]; omega) (by omega) (by simp; omega) (by omega)
    rw [e2]
    rw [fw_step (by omega) (fw_cb (by omega))]
    obtain ⟨r3, r4, r5, r6, e3⟩ := fw_tree hW r fs k true (ov + 1 + x.nov + y.nov) (i + 1 + x.len + 1 + y.len + 1) rest (pre ++ [[123]] ++ x.words ++ [[124]] ++ y.words ++ [[125]]) _ _ _ _ (by rw [decide_eq_false hn]; exact (decide_eq_false hn) ▸ kr) (by rw [hw]; simp) (by simp [hp, T.words_len]; omega) (by omega) (by omega) (by omega)
    refine ⟨r3, r4, r5, r6, ?_⟩
    rw [e3]
    have a1 : i + 1 + x.len + 1 + y.len + 1 + r.len = i + (x.len + y.len + r.len + 3) := by omega
    have a2 : ov + 1 + (x.nov : Int) + (y.nov : Int) + (r.nov : Int) = ov + ((x.nov + y.nov + r.nov + 1 : Nat) : Int) := by omega
    rw [a1, a2]
    simp [T.ne]
end
end L

set_option Elab.async false
set_option linter.all false
set_option maxRecDepth 100000
set_option maxHeartbeats 4000000
namespace L
open PySem L2 B
def T.labs : T → List (List Nat)
  | .nil => []
  | .size _ r => labs r
  | .align _ r => labs r
  | .label s r => s :: labs r
  | .rep _ b r => labs b ++ labs r
  | .both x y r => labs x ++ labs y ++ labs r
def isLab (w : List Nat) : Bool := w.getLast? == some 58
theorem isLab_num {n : Nat} : isLab (TL.numL n) = false := by
  unfold isLab
  rw [Bool.eq_false_iff]
  intro h
  have := TL.numL_digits n 58 (List.mem_of_getLast? (eq_of_beq h))
  omega
theorem isLab_cons {c n : Nat} : isLab (c :: TL.numL n) = false := by
  unfold isLab
  rw [Bool.eq_false_iff]
  intro h
  have h := eq_of_beq h
  rw [List.getLast?_cons] at h
  cases hh : TL.numL n with
  | nil => exact absurd hh (TL.numL_ne n)
  | cons d m =>
    rw [hh] at h
    have : (d :: m).getLast? = some 58 := by
      rw [List.getLast?_cons] at h ⊢
      simpa using h
    have := TL.numL_digits n 58 (by rw [hh]; exact List.mem_of_getLast? this)
    omega
theorem isLab_lab {s : List Nat} : isLab (s ++ [58]) = true := by simp [isLab]
theorem labs_words : ∀ t : T, t.words.filter isLab = t.labs.map (· ++ [58])
  | .nil => rfl
  | .size n r => by simp [T.words, T.labs, isLab_num, labs_words r]
  | .align k r => by simp [T.words, T.labs, isLab_cons, labs_words r]
  | .label s r => by simp [T.words, T.labs, isLab_lab, labs_words r]
  | .rep t b r => by
    have : isLab [40] = false := by decide
    simp [T.words, T.labs, isLab_cons, this, labs_words r, labs_words b]
  | .both x y r => by
    have h1 : isLab [123] = false := by decide
    have h2 : isLab [124] = false := by decide
    have h3 : isLab [125] = false := by decide
    simp [T.words, T.labs, h1, h2, h3, labs_words r, labs_words x, labs_words y]
theorem dis_words {t : T} (h : t.labs.Nodup) : Dis t.words := by
  intro p w q e hm
  have f := labs_words t
  rw [e, List.filter_append, List.filter_cons, if_pos isLab_lab] at f
  have nd : (t.labs.map (· ++ [58])).Nodup := List.pairwise_map.mpr (h.imp fun hab e => hab (List.append_cancel_right e))
  rw [← f, List.nodup_append] at nd
  exact nd.2.2 _ (List.mem_filter.mpr ⟨hm, isLab_lab⟩) _ (by simp) rfl
theorem e_first_wrong {t : T} {ρ : B.Env} (hk : t.ok false) (hl : t.len ≤ 400) (hd : t.dp ≤ 12) (ho : t.nov ≤ 6) (hn : t.labs.Nodup) : bk0 (F_first_wrong [.fz (.lst (t.words.map tx))]) ρ = .ok (.fz (.at .non)) ρ := by
  obtain ⟨p3, p4, p5, p6, e⟩ := fw_tree (dis_words hn) t [] "all" false 0 0 [] [] none none none none (by rw [decide_eq_false (by decide)]; exact hk) (by simp) rfl (by omega) (by simpa using hd) (by omega)
  have ln : ∀ f, sLen [.lst [fr "all" f]] = some (.fz (.at (.int 1))) := fun f => rfl
  have e1 : sEq (.at (.int 1)) (.at (.int 1)) = some (.fz (.at (.bl true))) := by simp [sEq, oor, sEqA, scal]
  simp only [F_first_wrong, g_first_wrong, g_first_wrong_11, g_first_wrong_12]
  simp only [List.append_nil, List.map_nil, List.nil_append] at e
  simp [fnB, plainA, Sl.own, doS, bnd, getV, pur, op2, deref, Sl.pv, lift, sPlus, sSub, sMul, sDiv, sMod, sPow, powC, modC, oor, sAdd, sI, sIc, fnR, outs, seq, nxt, unpS, tgT, tgs, ifS, tupV, lstV, frzs, frz, sIx, sLe, sLt, sGt, sGe, sAnd, toB, atI, ixN, setS, setIx, setFld, putN, orT, andV, andT, isiV, PV.kd, fldV, ownsA, chkI, chkN, chkK, parS, pass1, forEn_, itemsL]
  rw [e]
  simp [enumL, forS, nxt, bltV, derefs, bnd, getV, pur, deref, lift, ln, e1, op2, toB, bk0]
/-! ### nodes_from -/
def Stop (ws : List (List Nat)) : Prop := ws = [] ∨ ∃ w q, ws = w :: q ∧ (w = [124] ∨ w = [125] ∨ ∃ m, w = 41 :: m ∧ m.length ≤ 100)
abbrev nE (W : List (List Nat)) (i : Nat) (acc : List PV) (o3 o4 o5 o6 o7 o8 : Option Sl) : B.Env := [some (.fz (.lst (W.map tx))), some (.fz (I i)), some (.ow acc), o3, o4, o5, o6, o7, o8]
section
variable {W : List (List Nat)} {i : Nat} {w : List Nat} {acc : List PV} {o3 o4 o5 o6 o7 o8 : Option Sl} {pre rest : List (List Nat)}
theorem w_at (h : W = pre ++ w :: rest) : sIx (.lst (W.map tx)) (I pre.length) = some (.fz (tx w)) := by
  show (atI (W.map tx) pre.length).map _ = _
  unfold atI ixN
  have h0 : ¬ ((pre.length : Int) < 0) := by omega
  have h1 : (pre.length : Int) < (pre.length : Int) + ((rest.length : Int) + 1) := by omega
  have h2 : (pre.map tx ++ tx w :: rest.map tx)[pre.length]? = some (tx w) := by
    have := List.getElem?_append_right (l₁ := pre.map tx) (l₂ := tx w :: rest.map tx) (i := pre.length) (by simp)
    rw [this]
    simp
  rw [h]
  simp [h0, h1, h2]
abbrev nCond : M Bool := (andT (bnd (getV 1) fun x => bnd (bnd (bnd (getV 0) fun x => bnd (pur []) fun xs => pur (x :: xs)) fun xs => bltV sLen xs) fun y => bnd (op2 sLt x y) toB) (andT (bnd (bnd (getV 0) fun x => bnd (getV 1) fun y => op2 sIx x y) fun x => bnd (bnd (bnd (pur (.fz (.at (.str "|")))) fun x => bnd (bnd (pur (.fz (.at (.str "}")))) fun x => bnd (pur []) fun xs => pur (x :: xs)) fun xs => pur (x :: xs)) tupV) fun y => bnd (op2 (sIn true) x y) toB) (bnd (bnd (bnd (getV 0) fun x => bnd (getV 1) fun y => op2 sIx x y) fun x => bnd (pur (.fz (.at (.int 0)))) fun y => op2 sIx x y) fun x => bnd (pur (.fz (.at (.str ")")))) fun y => bnd (op2 sNe x y) toB)))
theorem n_stop (h : W = pre ++ rest) (s : Stop rest) : nCond (nE W pre.length acc o3 o4 o5 o6 o7 o8) = .ok false (nE W pre.length acc o3 o4 o5 o6 o7 o8) := by
  have ln := sLen_lst (ps := W.map tx)
  rcases s with rfl | ⟨w, q, rfl, hw⟩
  · have hh : ¬ pre.length < W.length := by rw [h]; simp
    simp [nCond, andT, bnd, getV, pur, op2, deref, lift, bltV, derefs, ln, sLt, sIc, sI, toB, hh]
  · have hh : pre.length < W.length := by rw [h]; simp
    have at_ := w_at h
    have si := sIn_txT (neg := true) (a := w) (ws := [[124], [125]])
    simp only [List.map_cons, List.map_nil] at si
    rcases hw with rfl | rfl | ⟨m, rfl, hm⟩
    · simp [nCond, andT, bnd, getV, pur, op2, deref, lift, bltV, derefs, ln, sLt, sIc, sI, toB, hh, k_bar, k_cb, tupV, frzs, frz, at_, si]
    · simp [nCond, andT, bnd, getV, pur, op2, deref, lift, bltV, derefs, ln, sLt, sIc, sI, toB, hh, k_bar, k_cb, tupV, frzs, frz, at_, si]
    · have ix := sIx_tx (l := 41 :: m) (i := 0) (by simp; exact Nat.le_trans (Nat.succ_le_succ hm) (by decide)) atI_zero
      have ne := sNe_tx (a := [41]) (b := [41])
      simp [nCond, andT, bnd, getV, pur, op2, deref, lift, bltV, derefs, ln, sLt, sIc, sI, toB, hh, k_bar, k_cb, k_cl, tupV, frzs, frz, at_, si, ix, ne]
/-- a word that begins a node -/
def nodeW (w : List Nat) : Prop := w ≠ [124] ∧ w ≠ [125] ∧ ∃ c m, w = c :: m ∧ c ≠ 41 ∧ m.length ≤ 100
theorem n_go (h : W = pre ++ w :: rest) (s : nodeW w) : nCond (nE W pre.length acc o3 o4 o5 o6 o7 o8) = .ok true (nE W pre.length acc o3 o4 o5 o6 o7 o8) := by
  have ln := sLen_lst (ps := W.map tx)
  obtain ⟨h1, h2, c, m, rfl, hc, hm⟩ := s
  have hh : pre.length < W.length := by rw [h]; simp
  have at_ := w_at h
  have si := sIn_txT (neg := true) (a := c :: m) (ws := [[124], [125]])
  rw [decide_eq_false (by simp only [List.mem_cons, List.not_mem_nil, or_false]; exact fun q => q.elim h1 h2)] at si
  simp only [List.map_cons, List.map_nil] at si
  have ix := sIx_tx (l := c :: m) (i := 0) (by simp; exact Nat.le_trans (Nat.succ_le_succ hm) (by decide)) atI_zero
  have ne := sNe_tx (a := [c]) (b := [41])
  rw [decide_eq_false (by simpa using hc)] at ne
  simp [nCond, andT, bnd, getV, pur, op2, deref, lift, bltV, derefs, ln, sLt, sIc, sI, toB, hh, k_bar, k_cb, k_cl, tupV, frzs, frz, at_, si, ix, ne]
end
end L

set_option Elab.async false
set_option linter.all false
set_option maxRecDepth 100000
set_option maxHeartbeats 4000000
namespace L
open PySem L2 B
section
variable {W : List (List Nat)} {i : Nat} {w : List Nat} {acc ns ms : List PV} {o3 o4 o5 o6 o7 o8 : Option Sl} {pre rest mid : List (List Nat)} {Fr : Fn} {d : Nat}
theorem nb_size {n : Nat} (h : W = pre ++ TL.numL n :: rest) (hn : n ≤ 10 ^ 30) (ha : acc.length < sizeLine) : g_nodes_from_7 Fr (nE W pre.length acc o3 o4 o5 o6 o7 o8) = .nx (nE W (pre.length + 1) (acc ++ [.tup [.at (.str "size"), I n, I pre.length]]) (some (.fz (I pre.length))) (some (.fz (tx (TL.numL n)))) o5 o6 o7 o8) := by
  obtain ⟨p1, p2, p3, p4, c, m, e, p5, hm⟩ := num_plain hn
  have at_ := w_at h
  have e1 := sEq_tx (a := TL.numL n) (b := [40])
  have e2 := sEq_tx (a := TL.numL n) (b := [123])
  rw [decide_eq_false p1] at e1
  rw [decide_eq_false p2] at e2
  have ix := sIx_tx (l := TL.numL n) (i := 0) (c := c) (by rw [e]; simp; exact Nat.le_trans (Nat.succ_le_succ hm) (by decide)) (by rw [e]; exact atI_zero)
  have hc := TL.numL_digits n c (by rw [e]; simp)
  have e3 := sEq_tx (a := [c]) (b := [64])
  rw [decide_eq_false (by simp; omega)] at e3
  obtain ⟨z, v, hz⟩ : ∃ z v, TL.numL n = v ++ [z] := ⟨(TL.numL n).getLast (TL.numL_ne n), (TL.numL n).dropLast, (List.dropLast_concat_getLast (TL.numL_ne n)).symm⟩
  have il := sIx_tx (l := TL.numL n) (i := -1) (c := z) (by rw [e]; simp; exact Nat.le_trans (Nat.succ_le_succ hm) (by decide)) (by rw [hz]; exact atI_last)
  have hz2 := TL.numL_digits n z (by rw [hz]; simp)
  have e4 := sEq_tx (a := [z]) (b := [58])
  rw [decide_eq_false (by simp; omega)] at e4
  have it := sInt_num (n := n) (by rw [e]; simp; omega)
  simp only [g_nodes_from_7, g_nodes_from_6, k_op, k_ob, k_at, k_col]
  simp [fnB, plainA, Sl.own, doS, bnd, getV, pur, op2, deref, Sl.pv, lift, sPlus, sSub, sMul, sDiv, sMod, sPow, powC, modC, oor, sAdd, sI, sIc, fnR, outs, seq, nxt, unpS, tgT, tgs, tgN, ifS, tupV, lstV, frzs, frz, sLe, sLt, sGt, sGe, sAnd, toB, atI, ixN, setS, setIx, setFld, putN, orT, andV, andT, isiV, PV.kd, fldV, ownsA, chkI, chkN, chkK, parS, pass1, op1, sNeg, at_, e1, e2, ix, e3, il, e4, bltV, derefs, it, hasO, apM, ha]
theorem nb_align {k : Nat} (h : W = pre ++ (64 :: TL.numL (2 ^ k)) :: rest) (hk : k ≤ 60) (ha : acc.length < sizeLine) : g_nodes_from_7 Fr (nE W pre.length acc o3 o4 o5 o6 o7 o8) = .nx (nE W (pre.length + 1) (acc ++ [.tup [.at (.str "align"), I ((2 ^ k : Nat) : Int), I pre.length]]) (some (.fz (I pre.length))) (some (.fz (tx (64 :: TL.numL (2 ^ k))))) o5 o6 o7 o8) := by
  have b1 : 2 ^ k < 10 ^ 31 := Nat.lt_of_le_of_lt (Nat.pow_le_pow_right (by decide) hk) (by decide)
  have ln := numL_len 30 (2 ^ k) b1
  have at_ := w_at h
  have e1 := sEq_tx (a := 64 :: TL.numL (2 ^ k)) (b := [40])
  have e2 := sEq_tx (a := 64 :: TL.numL (2 ^ k)) (b := [123])
  rw [decide_eq_false (by simp)] at e1
  rw [decide_eq_false (by simp)] at e2
  have sz : (64 :: TL.numL (2 ^ k)).length ≤ sizeLine := Nat.le_trans (Nat.succ_le_succ ln) (by decide)
  have ix := sIx_tx (l := 64 :: TL.numL (2 ^ k)) (i := 0) sz atI_zero
  have e3 := sEq_tx (a := [64]) (b := [64])
  have tl := slV_tail (c := 64) (l := TL.numL (2 ^ k)) sz
  have it := sInt_num (n := 2 ^ k) (by omega)
  have q1 : ∀ q : List Nat, (2 : Nat) ^ k = 2 ^ k := fun _ => rfl
  generalize (2 : Nat) ^ k = n at *
  simp only [g_nodes_from_7, g_nodes_from_6, k_op, k_ob, k_at, k_col]
  simp [fnB, plainA, Sl.own, doS, bnd, getV, pur, op2, deref, Sl.pv, lift, sPlus, sSub, sMul, sDiv, sMod, sPow, powC, modC, oor, sAdd, sI, sIc, fnR, outs, seq, nxt, unpS, tgT, tgs, tgN, ifS, tupV, lstV, frzs, frz, sLe, sLt, sGt, sGe, sAnd, toB, atI, ixN, setS, setIx, setFld, putN, orT, andV, andT, isiV, PV.kd, fldV, ownsA, chkI, chkN, chkK, parS, pass1, op1, sNeg, toI, at_, e1, e2, ix, e3, tl, bltV, derefs, it, hasO, apM, ha]
theorem nb_label {s : List Nat} (h : W = pre ++ (s ++ [58]) :: rest) (hs : lab s) (ha : acc.length < sizeLine) : g_nodes_from_7 Fr (nE W pre.length acc o3 o4 o5 o6 o7 o8) = .nx (nE W (pre.length + 1) (acc ++ [.tup [.at (.str "label"), tx s, I pre.length]]) (some (.fz (I pre.length))) (some (.fz (tx (s ++ [58])))) o5 o6 o7 o8) := by
  obtain ⟨p1, p2, p3, p4, c, m, e, p5, hm⟩ := label_plain hs
  have at_ := w_at h
  have e1 := sEq_tx (a := s ++ [58]) (b := [40])
  have e2 := sEq_tx (a := s ++ [58]) (b := [123])
  rw [decide_eq_false p1] at e1
  rw [decide_eq_false p2] at e2
  have h2 := hs.2.1
  have sz : (s ++ [58]).length ≤ sizeLine := by simp; exact Nat.le_trans (Nat.succ_le_succ h2) (by decide)
  have ix := sIx_tx (l := s ++ [58]) (i := 0) (c := c) sz (by rw [e]; exact atI_zero)
  have hc : c ≠ 64 := by
    cases s with
    | nil => simp at e; have := hs.1; simp at this
    | cons d s =>
      simp only [List.cons_append, List.cons.injEq] at e
      have h3 := hs.2.2
      simp only [List.all_cons, Bool.and_eq_true, sml, decide_eq_true_eq] at h3
      omega
  have e3 := sEq_tx (a := [c]) (b := [64])
  rw [decide_eq_false (by simpa using hc)] at e3
  have il := sIx_tx (l := s ++ [58]) (i := -1) sz atI_last
  have e4 := sEq_tx (a := [58]) (b := [58])
  have ini := slV_init (c := 58) (l := s) (by simpa using sz)
  simp only [g_nodes_from_7, g_nodes_from_6, k_op, k_ob, k_at, k_col]
  simp [fnB, plainA, Sl.own, doS, bnd, getV, pur, op2, deref, Sl.pv, lift, sPlus, sSub, sMul, sDiv, sMod, sPow, powC, modC, oor, sAdd, sI, sIc, fnR, outs, seq, nxt, unpS, tgT, tgs, tgN, ifS, tupV, lstV, frzs, frz, sLe, sLt, sGt, sGe, sAnd, toB, atI, ixN, setS, setIx, setFld, putN, orT, andV, andT, isiV, PV.kd, fldV, ownsA, chkI, chkN, chkK, parS, pass1, op1, sNeg, toI, at_, e1, e2, ix, e3, il, e4, ini, bltV, derefs, hasO, apM, ha]
theorem nb_rep {t : Nat} (h : W = pre ++ [40] :: (mid ++ (41 :: TL.numL t) :: rest)) (ht : t ≤ 10 ^ 30) (ha : acc.length < sizeLine)
    (hF : ∀ ρ, bk0 (Fr [.fz (.lst (W.map tx)), .fz (I ((pre.length : Int) + 1))]) ρ = .ok (.fz (.tup [.tup ns, I ((pre.length : Int) + 1 + mid.length)])) ρ) :
    g_nodes_from_7 Fr (nE W pre.length acc o3 o4 o5 o6 o7 o8) = .nx (nE W (pre.length + mid.length + 2) (acc ++ [.tup [.at (.str "repeat"), I t, .tup ns, I pre.length]]) (some (.fz (I pre.length))) (some (.fz (tx [40]))) (some (.fz (.tup ns))) o6 o7 o8) := by
  have at_ := w_at h
  have at2 := w_at (W := W) (pre := pre ++ [40] :: mid) (w := 41 :: TL.numL t) (rest := rest) (by rw [h]; simp)
  have el : ((pre ++ [40] :: mid).length : Int) = (pre.length : Int) + 1 + mid.length := by simp; omega
  rw [el] at at2
  have e1 := sEq_tx (a := [40]) (b := [40])
  have b1 : t < 10 ^ 31 := Nat.lt_of_le_of_lt ht (by decide)
  have ln := numL_len 30 t b1
  have tl := slV_tail (c := 41) (l := TL.numL t) (Nat.le_trans (Nat.succ_le_succ ln) (by decide))
  have it := sInt_num (n := t) (by omega)
  have ej : ((pre.length + mid.length + 2 : Nat) : Int) = (pre.length : Int) + 1 + mid.length + 1 := by omega
  simp only [g_nodes_from_7, g_nodes_from_6, g_nodes_from_1, g_nodes_from_2, k_op, k_ob, k_at, k_col, nE, ej]
  simp [fnB, plainA, Sl.own, doS, bnd, getV, pur, op2, deref, Sl.pv, lift, sPlus, sSub, sMul, sDiv, sMod, sPow, powC, modC, oor, sAdd, sI, sIc, fnR, outs, seq, nxt, unpS, tgT, tgs, tgN, ifS, tupV, lstV, frzs, frz, sLe, sLt, sGt, sGe, sAnd, toB, atI, ixN, setS, setIx, setFld, putN, orT, andV, andT, isiV, PV.kd, fldV, ownsA, chkI, chkN, chkK, parS, pass1, op1, sNeg, toI, at_, at2, e1, hF, tl, bltV, derefs, it, hasO, apM, ha]
theorem nb_both {m2 : List (List Nat)} (h : W = pre ++ [123] :: (mid ++ [124] :: (m2 ++ [125] :: rest))) (ha : acc.length < sizeLine)
    (hF : ∀ ρ, bk0 (Fr [.fz (.lst (W.map tx)), .fz (I ((pre.length : Int) + 1))]) ρ = .ok (.fz (.tup [.tup ns, I ((pre.length : Int) + 1 + mid.length)])) ρ)
    (hG : ∀ ρ, bk0 (Fr [.fz (.lst (W.map tx)), .fz (I ((pre.length : Int) + 1 + mid.length + 1))]) ρ = .ok (.fz (.tup [.tup ms, I ((pre.length : Int) + 1 + mid.length + 1 + m2.length)])) ρ) :
    ∃ p3 p4 p5 p6 p7 p8, g_nodes_from_7 Fr (nE W pre.length acc o3 o4 o5 o6 o7 o8) = .nx (nE W (pre.length + mid.length + m2.length + 3) (acc ++ [.tup [.at (.str "overlay"), .tup ns, .tup ms, I pre.length]]) p3 p4 p5 p6 p7 p8) := by
  have at_ := w_at h
  have e1 := sEq_tx (a := [123]) (b := [40])
  have e2 := sEq_tx (a := [123]) (b := [123])
  have ej : ((pre.length + mid.length + m2.length + 3 : Nat) : Int) = (pre.length : Int) + 1 + mid.length + 1 + m2.length + 1 := by omega
  refine ⟨some (.fz (I pre.length)), some (.fz (tx [123])), o5, some (.fz (.tup ns)), some (.fz (I ((pre.length : Int) + 1 + mid.length))), some (.fz (.tup ms)), ?_⟩
  simp only [g_nodes_from_7, g_nodes_from_6, g_nodes_from_3, g_nodes_from_4, g_nodes_from_5, k_op, k_ob, k_at, k_col, nE, ej]
  simp [fnB, plainA, Sl.own, doS, bnd, getV, pur, op2, deref, Sl.pv, lift, sPlus, sSub, sMul, sDiv, sMod, sPow, powC, modC, oor, sAdd, sI, sIc, fnR, outs, seq, nxt, unpS, tgT, tgs, tgN, ifS, tupV, lstV, frzs, frz, sLe, sLt, sGt, sGe, sAnd, toB, atI, ixN, setS, setIx, setFld, putN, orT, andV, andT, isiV, PV.kd, fldV, ownsA, chkI, chkN, chkK, parS, pass1, op1, sNeg, toI, at_, e1, e2, hF, hG, bltV, derefs, hasO, apM, ha]
theorem while_go {g : MS} {c : M Bool} {n : Nat} {E E' : B.Env} (h : c E = .ok true E) (h2 : g E = .nx E') : whileS c g (n + 1) E = whileS c g n E' := by
  rw [whileS]
  simp only [doS, h, if_true, h2]
theorem while_end {g : MS} {c : M Bool} {n : Nat} {E : B.Env} (h : c E = .ok false E) : whileS c g (n + 1) E = .nx E := by
  rw [whileS]
  simp [doS, h]
def NF (Fr : Fn) (d : Nat) : Prop := ∀ (t : T) (b : Bool) (W pre rest : List (List Nat)) (ρ : B.Env) (i : Int), t.ok b → t.dp < d → W = pre ++ (t.words ++ rest) → Stop rest → W.length ≤ 400 → i = pre.length →
  bk0 (Fr [.fz (.lst (W.map tx)), .fz (I i)]) ρ = .ok (.fz (.tup [.tup (t.nodes pre.length), I (i + t.len)])) ρ
theorem nf_while (hF : NF Fr d) : ∀ (t : T) (b : Bool) (n : Nat) (pre rest : List (List Nat)) (acc : List PV) (o3 o4 o5 o6 o7 o8 : Option Sl),
    t.ok b → t.dp ≤ d → t.len < n → W = pre ++ (t.words ++ rest) → Stop rest → W.length ≤ 400 → acc.length ≤ pre.length →
    ∃ p3 p4 p5 p6 p7 p8, whileS nCond (g_nodes_from_7 Fr) n (nE W pre.length acc o3 o4 o5 o6 o7 o8) = .nx (nE W (pre.length + t.len) (acc ++ t.nodes pre.length) p3 p4 p5 p6 p7 p8)
  | .nil, b, n, pre, rest, acc, o3, o4, o5, o6, o7, o8, _, _, hn, hw, hs, _, _ => by
    cases n with
    | zero => omega
    | succ n => exact ⟨o3, o4, o5, o6, o7, o8, by rw [while_end (n_stop hw hs)]; simp [T.len, T.nodes]⟩
  | .size m r, b, n, pre, rest, acc, o3, o4, o5, o6, o7, o8, hk, hd, hn, hw, hs, hl, ha => by
    simp only [T.ok] at hk
    simp only [T.words, T.len, T.dp, List.cons_append] at hw hd hn ⊢
    have hlen : pre.length < 400 := by
      have := congrArg List.length hw
      simp at this
      omega
    cases n with
    | zero => omega
    | succ n =>
      obtain ⟨q1, q2, q3, q4, q⟩ := num_plain hk.1
      rw [while_go (n_go hw ⟨q3, q4, q⟩) (nb_size hw hk.1 (Nat.lt_of_le_of_lt (Nat.le_trans ha (Nat.le_of_lt hlen)) (by decide)))]
      obtain ⟨p3, p4, p5, p6, p7, p8, e⟩ := nf_while hF r b n (pre ++ [TL.numL m]) rest (acc ++ [.tup [.at (.str "size"), I m, I pre.length]]) (some (.fz (I pre.length))) (some (.fz (tx (TL.numL m)))) o5 o6 o7 o8 hk.2 hd (by omega) (by rw [hw]; simp) hs hl (by simp; omega)
      simp only [List.length_append, List.length_cons, List.length_nil, Nat.zero_add] at e
      refine ⟨p3, p4, p5, p6, p7, p8, e.trans ?_⟩
      have a1 : pre.length + 1 + r.len = pre.length + (r.len + 1) := by omega
      rw [a1]
      simp [T.nodes]
  | .align k r, b, n, pre, rest, acc, o3, o4, o5, o6, o7, o8, hk, hd, hn, hw, hs, hl, ha => by
    simp only [T.ok] at hk
    simp only [T.words, T.len, T.dp, List.cons_append] at hw hd hn ⊢
    have hlen : pre.length < 400 := by
      have := congrArg List.length hw
      simp at this
      omega
    cases n with
    | zero => omega
    | succ n =>
      obtain ⟨q1, q2, q3, q4, q⟩ := align_plain hk.2.1
      rw [while_go (n_go hw ⟨q3, q4, q⟩) (nb_align hw hk.2.1 (Nat.lt_of_le_of_lt (Nat.le_trans ha (Nat.le_of_lt hlen)) (by decide)))]
      obtain ⟨p3, p4, p5, p6, p7, p8, e⟩ := nf_while hF r b n (pre ++ [64 :: TL.numL (2 ^ k)]) rest (acc ++ [.tup [.at (.str "align"), I ((2 ^ k : Nat) : Int), I pre.length]]) (some (.fz (I pre.length))) (some (.fz (tx (64 :: TL.numL (2 ^ k))))) o5 o6 o7 o8 hk.2.2 hd (by omega) (by rw [hw]; simp) hs hl (by simp; omega)
      simp only [List.length_append, List.length_cons, List.length_nil, Nat.zero_add] at e
      refine ⟨p3, p4, p5, p6, p7, p8, e.trans ?_⟩
      have a1 : pre.length + 1 + r.len = pre.length + (r.len + 1) := by omega
      rw [a1]
      simp [T.nodes]
  | .label s r, b, n, pre, rest, acc, o3, o4, o5, o6, o7, o8, hk, hd, hn, hw, hs, hl, ha => by
    simp only [T.ok] at hk
    simp only [T.words, T.len, T.dp, List.cons_append] at hw hd hn ⊢
    have hlen : pre.length < 400 := by
      have := congrArg List.length hw
      simp at this
      omega
    cases n with
    | zero => omega
    | succ n =>
      obtain ⟨q1, q2, q3, q4, q⟩ := label_plain hk.1
      rw [while_go (n_go hw ⟨q3, q4, q⟩) (nb_label hw hk.1 (Nat.lt_of_le_of_lt (Nat.le_trans ha (Nat.le_of_lt hlen)) (by decide)))]
      obtain ⟨p3, p4, p5, p6, p7, p8, e⟩ := nf_while hF r b n (pre ++ [s ++ [58]]) rest (acc ++ [.tup [.at (.str "label"), tx s, I pre.length]]) (some (.fz (I pre.length))) (some (.fz (tx (s ++ [58])))) o5 o6 o7 o8 hk.2 hd (by omega) (by rw [hw]; simp) hs hl (by simp; omega)
      simp only [List.length_append, List.length_cons, List.length_nil, Nat.zero_add] at e
      refine ⟨p3, p4, p5, p6, p7, p8, e.trans ?_⟩
      have a1 : pre.length + 1 + r.len = pre.length + (r.len + 1) := by omega
      rw [a1]
      simp [T.nodes]
  | .rep t x r, b, n, pre, rest, acc, o3, o4, o5, o6, o7, o8, hk, hd, hn, hw, hs, hl, ha => by
    simp only [T.ok] at hk
    obtain ⟨h2, ht, hx, kx, kr⟩ := hk
    simp only [T.words, T.len, T.dp, List.cons_append, List.append_assoc] at hw hd hn ⊢
    have hlen : pre.length < 400 := by
      have := congrArg List.length hw
      simp at this
      omega
    cases n with
    | zero => omega
    | succ n =>
      have hB : ∀ ρ, bk0 (Fr [.fz (.lst (W.map tx)), .fz (I ((pre.length : Int) + 1))]) ρ = .ok (.fz (.tup [.tup (x.nodes (pre.length + 1)), I ((pre.length : Int) + 1 + x.words.length)])) ρ := fun ρ => by
        have := hF x true W (pre ++ [[40]]) ((41 :: TL.numL t) :: (r.words ++ rest)) ρ ((pre.length : Int) + 1) kx (by omega) (by rw [hw]; simp) (.inr ⟨_, _, rfl, .inr (.inr ⟨_, rfl, Nat.le_trans (numL_len 30 t (Nat.lt_of_le_of_lt ht (by decide))) (by decide)⟩)⟩) hl (by simp)
        rw [T.words_len]
        simpa using this
      rw [while_go (n_go hw ⟨by simp, by simp, 40, [], rfl, by decide, by decide⟩) (nb_rep hw ht (Nat.lt_of_le_of_lt (Nat.le_trans ha (Nat.le_of_lt hlen)) (by decide)) hB)]
      obtain ⟨p3, p4, p5, p6, p7, p8, e⟩ := nf_while hF r b n (pre ++ [40] :: (x.words ++ [41 :: TL.numL t])) rest (acc ++ [.tup [.at (.str "repeat"), I t, .tup (x.nodes (pre.length + 1)), I pre.length]]) (some (.fz (I pre.length))) (some (.fz (tx [40]))) (some (.fz (.tup (x.nodes (pre.length + 1))))) o6 o7 o8 kr (by omega) (by omega) (by rw [hw]; simp) hs hl (by simp; omega)
      have a0 : (pre ++ [40] :: (x.words ++ [41 :: TL.numL t])).length = pre.length + x.words.length + 2 := by simp; omega
      rw [a0] at e
      refine ⟨p3, p4, p5, p6, p7, p8, e.trans ?_⟩
      have a1 : pre.length + x.words.length + 2 + r.len = pre.length + (x.len + r.len + 2) := by rw [T.words_len]; omega
      rw [a1, T.words_len]
      simp [T.nodes]
  | .both x y r, b, n, pre, rest, acc, o3, o4, o5, o6, o7, o8, hk, hd, hn, hw, hs, hl, ha => by
    simp only [T.ok] at hk
    obtain ⟨hb, kx, ky, kr⟩ := hk
    simp only [T.words, T.len, T.dp, List.cons_append, List.append_assoc] at hw hd hn ⊢
    have hlen : pre.length < 400 := by
      have := congrArg List.length hw
      simp at this
      omega
    cases n with
    | zero => omega
    | succ n =>
      have hA : ∀ ρ, bk0 (Fr [.fz (.lst (W.map tx)), .fz (I ((pre.length : Int) + 1))]) ρ = .ok (.fz (.tup [.tup (x.nodes (pre.length + 1)), I ((pre.length : Int) + 1 + x.words.length)])) ρ := fun ρ => by
        have := hF x false W (pre ++ [[123]]) ([124] :: (y.words ++ [125] :: (r.words ++ rest))) ρ ((pre.length : Int) + 1) kx (by omega) (by rw [hw]; simp) (.inr ⟨_, _, rfl, .inl rfl⟩) hl (by simp)
        rw [T.words_len]
        simpa using this
      have hB : ∀ ρ, bk0 (Fr [.fz (.lst (W.map tx)), .fz (I ((pre.length : Int) + 1 + x.words.length + 1))]) ρ = .ok (.fz (.tup [.tup (y.nodes (pre.length + x.len + 2)), I ((pre.length : Int) + 1 + x.words.length + 1 + y.words.length)])) ρ := fun ρ => by
        have := hF y false W (pre ++ [123] :: (x.words ++ [[124]])) ([125] :: (r.words ++ rest)) ρ ((pre.length : Int) + 1 + x.words.length + 1) ky (by omega) (by rw [hw]; simp) (.inr ⟨_, _, rfl, .inr (.inl rfl)⟩) hl (by simp; omega)
        have a0 : (pre ++ [123] :: (x.words ++ [[124]])).length = pre.length + x.len + 2 := by simp [T.words_len]; omega
        rw [a0] at this
        rw [T.words_len y]
        exact this
      obtain ⟨q3, q4, q5, q6, q7, q8, eq⟩ := nb_both (o3 := o3) (o4 := o4) (o5 := o5) (o6 := o6) (o7 := o7) (o8 := o8) hw (Nat.lt_of_le_of_lt (Nat.le_trans ha (Nat.le_of_lt hlen)) (by decide)) hA hB
      rw [while_go (n_go hw ⟨by simp, by simp, 123, [], rfl, by decide, by decide⟩) eq]
      obtain ⟨p3, p4, p5, p6, p7, p8, e⟩ := nf_while hF r b n (pre ++ [123] :: (x.words ++ [124] :: (y.words ++ [[125]]))) rest (acc ++ [.tup [.at (.str "overlay"), .tup (x.nodes (pre.length + 1)), .tup (y.nodes (pre.length + x.len + 2)), I pre.length]]) q3 q4 q5 q6 q7 q8 kr (by omega) (by omega) (by rw [hw]; simp) hs hl (by simp; omega)
      have a0 : (pre ++ [123] :: (x.words ++ [124] :: (y.words ++ [[125]]))).length = pre.length + x.words.length + y.words.length + 3 := by simp; omega
      rw [a0] at e
      refine ⟨p3, p4, p5, p6, p7, p8, e.trans ?_⟩
      have a1 : pre.length + x.words.length + y.words.length + 3 + r.len = pre.length + (x.len + y.len + r.len + 3) := by rw [T.words_len, T.words_len]; omega
      rw [a1, T.words_len, T.words_len]
      simp [T.nodes]
theorem nf_step (hF : NF Fr d) (hd : d ≤ 100) : NF (fnB 2 9 [] (g_nodes_from Fr)) (d + 1) := by
  intro t b W pre rest ρ i hk ht hw hs hl hi
  subst hi
  have tl : t.len < 500 := by
    have := congrArg List.length hw
    simp [T.words_len] at this
    omega
  obtain ⟨p3, p4, p5, p6, p7, p8, e⟩ := nf_while hF t b 500 pre rest [] none none none none none none hk (by omega) tl hw hs hl (by simp)
  have tp : sTupL [.lst (t.nodes pre.length)] = some (.fz (.tup (t.nodes pre.length))) := rfl
  have e1 : (doS (bnd (pur []) lstV) fun v => setS true 2 v) [some (.fz (.lst (W.map tx))), some (.fz (I pre.length)), none, none, none, none, none, none, none] = .nx (nE W pre.length [] none none none none none none) := rfl
  have e3 : g_nodes_from_9 Fr (nE W (pre.length + t.len) ([] ++ t.nodes pre.length) p3 p4 p5 p6 p7 p8) = .rt (.fz (.tup [.tup (t.nodes pre.length), I ((pre.length : Int) + t.len)])) (nE W (pre.length + t.len) ([] ++ t.nodes pre.length) p3 p4 p5 p6 p7 p8) := by
    simp only [g_nodes_from_9]
    simp [fnB, plainA, Sl.own, doS, bnd, getV, pur, op2, deref, Sl.pv, lift, sPlus, sSub, sMul, sDiv, sMod, sPow, powC, modC, oor, sAdd, sI, sIc, fnR, outs, seq, nxt, unpS, tgT, tgs, tgN, ifS, tupV, lstV, frzs, frz, sIx, sLe, sLt, sGt, sGe, sAnd, toB, atI, ixN, setS, setIx, setFld, putN, orT, andV, andT, isiV, PV.kd, fldV, ownsA, chkI, chkN, chkK, parS, pass1, bltV, derefs, tp]
  have fin : g_nodes_from Fr [some (.fz (.lst (W.map tx))), some (.fz (I pre.length)), none, none, none, none, none, none, none] = _ := seq_nx e1 (seq_nx e e3)
  simp [fnB, plainA, Sl.own]
  rw [fin]
  simp [fnR, outs]
theorem nf_all : ∀ n : Nat, n ≤ 100 → NF (recB 2 9 [] g_nodes_from n) n
  | 0, _ => fun t b W pre rest ρ i hk ht => absurd ht (by omega)
  | n + 1, h => nf_step (nf_all n (by omega)) (by omega)
theorem e_nodes_in {t : T} {ρ : B.Env} (hk : t.ok false) (hl : t.len ≤ 400) (hd : t.dp ≤ 12) : bk0 (F_nodes_in [.fz (.lst (t.words.map tx))]) ρ = .ok (.fz (.tup (t.nodes 0))) ρ := by
  have e := fun ρ => nf_all 16 (by decide) t false t.words [] [] ρ 0 hk (by omega) (by simp) (.inl rfl) (by rw [T.words_len]; exact hl) rfl
  have e' : ∀ ρ, bk0 (F_nodes_from [.fz (.lst (t.words.map tx)), .fz (I 0)]) ρ = .ok (.fz (.tup [.tup (t.nodes 0), I t.len])) ρ := fun ρ => by
    have := e ρ
    rw [Int.zero_add] at this
    exact this
  have ix : sIx (.tup [.tup (t.nodes 0), I t.len]) (I 0) = some (.fz (.tup (t.nodes 0))) := rfl
  simp only [F_nodes_in, g_nodes_in]
  simp [fnB, plainA, Sl.own, doS, bnd, getV, pur, op2, deref, Sl.pv, lift, sPlus, sSub, sMul, sDiv, sMod, sPow, powC, modC, oor, sAdd, sI, sIc, fnR, outs, seq, nxt, unpS, tgT, tgs, tgN, ifS, tupV, lstV, frzs, frz, sLe, sLt, sGt, sGe, sAnd, toB, atI, ixN, setS, setIx, setFld, putN, orT, andV, andT, isiV, PV.kd, fldV, ownsA, chkI, chkN, chkK, parS, pass1, e', ix]
end
end L

set_option Elab.async false
set_option linter.all false
set_option maxRecDepth 100000
set_option maxHeartbeats 4000000
namespace L
open PySem L2 B
section
variable {i : Nat} {tt : M Bool} {te : M EV} {E : B.Env}
theorem lc_fm (P : PV → Bool) (f : PV → PV) (hi : i < E.length) : ∀ (ps acc : List PV), (∀ p ∈ ps, tt (E.set i (some (.fz p))) = .ok (P p) (E.set i (some (.fz p))) ∧ (P p = true → te (E.set i (some (.fz p))) = .ok (.fz (f p)) (E.set i (some (.fz p))))) → lcF (tgN i) [i] tt te ps acc (E.set i none) = .ok (acc ++ (ps.filter P).map f) (E.set i none)
  | [], acc, _ => by simp [lcF, pur]
  | p :: ps, acc, h => by
    have ih := fun acc => lc_fm P f hi ps acc fun q hq => h q (by simp [hq])
    obtain ⟨h1, h2⟩ := h p (by simp)
    have e1 : tgN i p (E.set i none) = some (E.set i (some (.fz p))) := by simp [tgN]
    have w : wipeE (E.set i (some (.fz p))) [i] = E.set i none := by simp [wipeE]
    rw [lcF]
    cases hp : P p with
    | true =>
      rw [hp] at h1
      have e3 : lcTurn (tgN i) tt te p (E.set i none) = .ok (some (f p)) (E.set i (some (.fz p))) := by
        unfold lcTurn
        rw [e1]
        simp only [List.length_set, if_true, h1, h2 hp, frz, pur]
      simp only [e3, Option.toList, w]
      rw [ih]
      simp [hp]
    | false =>
      rw [hp] at h1
      have e3 : lcTurn (tgN i) tt te p (E.set i none) = .ok none (E.set i (some (.fz p))) := by
        unfold lcTurn
        rw [e1]
        simp only [List.length_set, if_true, h1]
      simp only [e3, Option.toList, w, List.append_nil]
      rw [ih]
      simp [hp]
theorem lcN_fm (P : PV → Bool) (f : PV → PV) (hi : i < E.length) {ps : List PV} (hl : ps.length ≤ sizeLine) (h : ∀ p ∈ ps, tt (E.set i (some (.fz p))) = .ok (P p) (E.set i (some (.fz p))) ∧ (P p = true → te (E.set i (some (.fz p))) = .ok (.fz (f p)) (E.set i (some (.fz p))))) : lcN (tgN i) [i] tt te ps E = .ok (.nw (.ow ((ps.filter P).map f))) (E.set i none) := by
  have w : wipeE E [i] = E.set i none := rfl
  unfold lcN
  rw [if_pos hl, w, lc_fm P f hi ps [] h]
  rfl
/-- .. over texts -/
theorem lcN_tx (P : List Nat → Bool) (f : List Nat → PV) (hi : i < E.length) {ws : List (List Nat)} (hl : ws.length ≤ sizeLine) (h : ∀ w ∈ ws, tt (E.set i (some (.fz (tx w)))) = .ok (P w) (E.set i (some (.fz (tx w)))) ∧ (P w = true → te (E.set i (some (.fz (tx w)))) = .ok (.fz (f w)) (E.set i (some (.fz (tx w)))))) : lcN (tgN i) [i] tt te (ws.map tx) E = .ok (.nw (.ow ((ws.filter P).map f))) (E.set i none) := by
  let P' : PV → Bool := fun p => match p with
    | .at (.str z) => P z.cps.toList
    | _ => false
  let f' : PV → PV := fun p => match p with
    | .at (.str z) => f z.cps.toList
    | _ => .at .non
  have e := lcN_fm (tt := tt) (te := te) (E := E) P' f' hi (ps := ws.map tx) (by rw [List.length_map]; exact hl) fun p hp => by
    obtain ⟨w, hw, rfl⟩ := List.mem_map.mp hp
    exact h w hw
  rw [e, List.filter_map, List.map_map]
  rfl
end
/-! ### words and their shapes -/
theorem words_ok : ∀ (t : T) (b : Bool), t.ok b → ∀ w ∈ t.words, w ≠ [] ∧ 32 ∉ w ∧ w.length ≤ 40
  | .nil, b, h, w, hw => by simp [T.words] at hw
  | .size n r, b, h, w, hw => by
    simp only [T.ok] at h
    simp only [T.words, List.mem_cons] at hw
    rcases hw with rfl | hw
    · exact ⟨TL.numL_ne n, TL.numL_free (by decide), Nat.le_trans (numL_len 30 n (Nat.lt_of_le_of_lt h.1 (by decide))) (by decide)⟩
    · exact words_ok r b h.2 w hw
  | .align k r, b, h, w, hw => by
    simp only [T.ok] at h
    simp only [T.words, List.mem_cons] at hw
    rcases hw with rfl | hw
    · have := numL_len 30 (2 ^ k) (Nat.lt_of_le_of_lt (Nat.pow_le_pow_right (by decide) h.2.1) (by decide))
      exact ⟨by simp, by simp only [List.mem_cons, not_or]; exact ⟨by decide, TL.numL_free (by decide)⟩, by simp; omega⟩
    · exact words_ok r b h.2.2 w hw
  | .label s r, b, h, w, hw => by
    simp only [T.ok] at h
    simp only [T.words, List.mem_cons] at hw
    rcases hw with rfl | hw
    · obtain ⟨⟨h1, h2, h3⟩, _⟩ := h
      refine ⟨by simp, ?_, by simp; omega⟩
      rw [List.mem_append, not_or]
      refine ⟨fun hm => ?_, by simp⟩
      have := List.all_eq_true.mp h3 32 hm
      simp [sml] at this
    · exact words_ok r b h.2 w hw
  | .rep t x r, b, h, w, hw => by
    simp only [T.ok] at h
    simp only [T.words, List.mem_cons, List.mem_append] at hw
    rcases hw with rfl | hw | rfl | hw
    · decide
    · exact words_ok x true h.2.2.2.1 w hw
    · have := numL_len 30 t (Nat.lt_of_le_of_lt h.2.1 (by decide))
      exact ⟨by simp, by simp only [List.mem_cons, not_or]; exact ⟨by decide, TL.numL_free (by decide)⟩, by simp; omega⟩
    · exact words_ok r b h.2.2.2.2 w hw
  | .both x y r, b, h, w, hw => by
    simp only [T.ok] at h
    simp only [T.words, List.mem_cons, List.mem_append] at hw
    rcases hw with rfl | hw | rfl | hw | rfl | hw
    · decide
    · exact words_ok x false h.2.1 w hw
    · decide
    · exact words_ok y false h.2.2.1 w hw
    · decide
    · exact words_ok r b h.2.2.2 w hw
def T.text (t : T) : List Nat := TL.joinL [32] t.words
theorem joinL_len : ∀ ws : List (List Nat), (∀ w ∈ ws, w.length ≤ 40) → (TL.joinL [32] ws).length ≤ 41 * ws.length
  | [], _ => by simp [TL.joinL]
  | [w], h => by
    have := h w (by simp)
    simp [TL.joinL]; omega
  | w :: v :: ws, h => by
    have h1 := h w (by simp)
    have h2 := joinL_len (v :: ws) fun x hx => h x (by simp at hx ⊢; exact .inr hx)
    simp only [TL.joinL, List.length_append, List.length_cons, List.length_nil] at h2 ⊢
    omega
theorem joinL_ne : ∀ ws : List (List Nat), ws ≠ [] → (∀ w ∈ ws, w ≠ []) → TL.joinL [32] ws ≠ []
  | [], h, _ => absurd rfl h
  | [w], _, h => h w (by simp)
  | w :: v :: ws, _, h => by
    have := h w (by simp)
    simp [TL.joinL, this]
section
variable {ρ : B.Env} {t : T}
theorem text_len (hk : t.ok false) (hl : t.len ≤ 400) : t.text.length ≤ 16400 := by
  have := joinL_len t.words fun w hw => (words_ok t false hk w hw).2.2
  rw [T.words_len] at this
  exact Nat.le_trans this (by omega)
theorem e_words_of (hk : t.ok false) (hl : t.len ≤ 400) : bk0 (F_words_of [.fz (tx t.text)]) ρ = .ok (.nw (.ow (t.words.map tx))) ρ := by
  have tl := text_len hk hl
  have ne := sNe_tx (a := t.text) (b := [])
  simp only [F_words_of, g_words_of, k_nil, k_sp]
  by_cases h : t.words = []
  · have h0 : t.text = [] := by unfold T.text; rw [h]; rfl
    rw [h0] at ne ⊢
    rw [h]
    simp [fnB, plainA, Sl.own, doS, bnd, getV, pur, op2, deref, Sl.pv, lift, sPlus, sSub, sMul, sDiv, sMod, sPow, powC, modC, oor, sAdd, sI, sIc, fnR, outs, seq, nxt, unpS, tgT, tgs, tgN, ifS, tupV, lstV, frzs, frz, sIx, sLe, sLt, sGt, sGe, sAnd, toB, atI, ixN, setS, setIx, setFld, putN, orT, andV, andT, isiV, PV.kd, fldV, ownsA, chkI, chkN, chkK, parS, pass1, ne]
  · have h0 : t.text ≠ [] := joinL_ne t.words h fun w hw => (words_ok t false hk w hw).1
    rw [decide_eq_false h0] at ne
    have sp := sSplit_tx (c := 32) (ws := t.words) h (fun w hw => (words_ok t false hk w hw).2.1) (by decide) (Nat.le_trans (Nat.add_le_add_right tl 2) (by decide))
    have sp' : sSplit (tx t.text) (tx [32]) = some (.nw (.ow (t.words.map tx))) := sp
    generalize t.text = w at *
    simp [fnB, plainA, Sl.own, doS, bnd, getV, pur, op2, deref, Sl.pv, lift, sPlus, sSub, sMul, sDiv, sMod, sPow, powC, modC, oor, sAdd, sI, sIc, fnR, outs, seq, nxt, unpS, tgT, tgs, tgN, ifS, tupV, lstV, frzs, frz, sIx, sLe, sLt, sGt, sGe, sAnd, toB, atI, ixN, setS, setIx, setFld, putN, orT, andV, andT, isiV, PV.kd, fldV, ownsA, chkI, chkN, chkK, parS, pass1, ne, isS, sp']
end
end L

set_option Elab.async false
set_option linter.all false
set_option maxRecDepth 100000
set_option maxHeartbeats 4000000
namespace L
open PySem L2 B
def T.exps : T → List Nat
  | .nil => []
  | .size _ r => exps r
  | .align k r => k :: exps r
  | .label _ r => exps r
  | .rep _ b r => exps b ++ exps r
  | .both x y r => exps x ++ exps y ++ exps r
def isAl (w : List Nat) : Bool := w.head? == some 64
theorem isAl_num {n : Nat} : isAl (TL.numL n) = false := by
  unfold isAl
  rw [Bool.eq_false_iff]
  intro h
  have h := eq_of_beq h
  cases hh : TL.numL n with
  | nil => exact absurd hh (TL.numL_ne n)
  | cons c m =>
    rw [hh] at h
    have := TL.numL_digits n c (by rw [hh]; simp)
    simp at h
    omega
theorem isAl_lab {s : List Nat} (h : lab s) : isAl (s ++ [58]) = false := by
  cases s with
  | nil => have := h.1; simp at this
  | cons c m =>
    have h3 := h.2.2
    simp only [List.all_cons, Bool.and_eq_true, sml, decide_eq_true_eq] at h3
    simp [isAl]
    omega
theorem exps_words : ∀ (t : T) (b : Bool), t.ok b → t.words.filter isAl = t.exps.map fun k => 64 :: TL.numL (2 ^ k)
  | .nil, b, _ => rfl
  | .size n r, b, h => by simp only [T.ok] at h; simp [T.words, T.exps, isAl_num, exps_words r b h.2]
  | .align k r, b, h => by
    simp only [T.ok] at h
    have : isAl (64 :: TL.numL (2 ^ k)) = true := by simp [isAl]
    simp [T.words, T.exps, this, exps_words r b h.2.2]
  | .label s r, b, h => by simp only [T.ok] at h; simp [T.words, T.exps, isAl_lab h.1, exps_words r b h.2]
  | .rep t x r, b, h => by
    simp only [T.ok] at h
    have h1 : isAl [40] = false := by decide
    have h2 : isAl (41 :: TL.numL t) = false := by simp [isAl]
    simp [T.words, T.exps, h1, h2, exps_words r b h.2.2.2.2, exps_words x true h.2.2.2.1]
  | .both x y r, b, h => by
    simp only [T.ok] at h
    have h1 : isAl [123] = false := by decide
    have h2 : isAl [124] = false := by decide
    have h3 : isAl [125] = false := by decide
    simp [T.words, T.exps, h1, h2, h3, exps_words r b h.2.2.2, exps_words x false h.2.1, exps_words y false h.2.2.1]
theorem exps_ok : ∀ (t : T) (b : Bool), t.ok b → ∀ k ∈ t.exps, 1 ≤ k ∧ k ≤ 60
  | .nil, b, _, k, hk => by simp [T.exps] at hk
  | .size n r, b, h, k, hk => by simp only [T.ok] at h; exact exps_ok r b h.2 k hk
  | .align j r, b, h, k, hk => by
    simp only [T.ok] at h
    simp only [T.exps, List.mem_cons] at hk
    rcases hk with rfl | hk
    · exact ⟨h.1, h.2.1⟩
    · exact exps_ok r b h.2.2 k hk
  | .label s r, b, h, k, hk => by simp only [T.ok] at h; exact exps_ok r b h.2 k hk
  | .rep t x r, b, h, k, hk => by
    simp only [T.ok] at h
    simp only [T.exps, List.mem_append] at hk
    rcases hk with hk | hk
    · exact exps_ok x true h.2.2.2.1 k hk
    · exact exps_ok r b h.2.2.2.2 k hk
  | .both x y r, b, h, k, hk => by
    simp only [T.ok] at h
    simp only [T.exps, List.mem_append] at hk
    rcases hk with (hk | hk) | hk
    · exact exps_ok x false h.2.1 k hk
    · exact exps_ok y false h.2.2.1 k hk
    · exact exps_ok r b h.2.2.2 k hk
def T.al (t : T) : Int := maxI 1 (t.exps.map fun k => (2 : Int) ^ k)
theorem liI_ints (ns : List Int) : liI (.lst (ns.map I)) = some ns := by
  have h1 : ∀ ns : List Int, ats (ns.map I) = some (ns.map V.int) := fun ns => by
    induction ns with
    | nil => rfl
    | cons c l ih =>
      show (ats (l.map I)).map (V.int c :: ·) = _
      rw [ih]
      rfl
  have h2 : ∀ ns : List Int, intsL (ns.map V.int) = some ns := fun ns => by
    induction ns with
    | nil => rfl
    | cons c l ih =>
      show (intsL (l.map V.int)).map (c :: ·) = _
      rw [ih]
      rfl
  show (ats (ns.map I)).bind intsL = _
  rw [h1]
  exact h2 ns
abbrev T.flds (t : T) : List (Nat × PV) := [(3, tx t.text), (4, .tup (t.words.map tx)), (5, .tup (t.nodes 0)), (6, .tup (t.labs.map tx)), (7, I t.al)]
abbrev T.lay (t : T) : PV := .ins 10 t.flds
/-- a layout that may be made -/
structure Lay (t : T) : Prop where
  ok : t.ok false
  len : t.len ≤ 400
  dp : t.dp ≤ 12
  nov : t.nov ≤ 6
  labs : t.labs.Nodup
section
variable {ρ : B.Env} {t : T} {E : B.Env} {w : List Nat}
theorem t_lab (h : w ≠ []) (hl : w.length ≤ 40) (hE : 4 < E.length) : t_Layout_init_1 (E.set 4 (some (.fz (tx w)))) = .ok (isLab w) (E.set 4 (some (.fz (tx w)))) := by
  obtain ⟨v, z, hz⟩ : ∃ v z, w = v ++ [z] := ⟨w.dropLast, w.getLast h, (List.dropLast_concat_getLast h).symm⟩
  have il := sIx_tx (l := w) (i := -1) (c := z) (Nat.le_trans hl (by decide)) (by rw [hz]; exact atI_last)
  have e := sEq_tx (a := [z]) (b := [58])
  have il2 : isLab w = decide (z = 58) := by
    rw [hz, isLab, Bool.eq_iff_iff]
    simp
  simp only [t_Layout_init_1, k_col]
  simp [bnd, getV, pur, op2, deref, lift, op1, sNeg, il, e, toB, hE, il2]
theorem x_lab (h : isLab w = true) (hl : w.length ≤ 40) (hE : 4 < E.length) : x_Layout_init_2 (E.set 4 (some (.fz (tx w)))) = .ok (.fz (tx w.dropLast)) (E.set 4 (some (.fz (tx w)))) := by
  have hw : w ≠ [] := by rintro rfl; simp [isLab] at h
  obtain ⟨v, z, hz⟩ : ∃ v z, w = v ++ [z] := ⟨w.dropLast, w.getLast hw, (List.dropLast_concat_getLast hw).symm⟩
  have hv : v.length + 1 ≤ sizeLine := by
    rw [hz] at hl
    simp at hl
    exact Nat.le_trans (show v.length + 1 ≤ 40 by omega) (by decide)
  have ini := slV_init (c := z) (l := v) hv
  rw [← hz] at ini
  have hd : w.dropLast = v := by rw [hz]; simp
  simp only [x_Layout_init_2]
  simp [bnd, getV, pur, op2, deref, lift, op1, sNeg, toI, ini, hE, hd]
theorem t_al (h : w ≠ []) (hl : w.length ≤ 40) (hE : 4 < E.length) : t_Layout_init_3 (E.set 4 (some (.fz (tx w)))) = .ok (isAl w) (E.set 4 (some (.fz (tx w)))) := by
  obtain ⟨c, m, rfl⟩ : ∃ c m, w = c :: m := by
    cases w with
    | nil => exact absurd rfl h
    | cons c m => exact ⟨c, m, rfl⟩
  have ix := sIx_tx (l := c :: m) (i := 0) (Nat.le_trans hl (by decide)) atI_zero
  have e := sEq_tx (a := [c]) (b := [64])
  have il2 : isAl (c :: m) = decide (c = 64) := by
    rw [isAl, Bool.eq_iff_iff]
    simp
  simp only [t_Layout_init_3, k_at]
  simp [bnd, getV, pur, op2, deref, lift, ix, e, toB, hE, il2]
theorem x_al {n : Nat} (hl : (TL.numL n).length ≤ 40) (hE : 4 < E.length) : x_Layout_init_4 (E.set 4 (some (.fz (tx (64 :: TL.numL n))))) = .ok (.fz (I n)) (E.set 4 (some (.fz (tx (64 :: TL.numL n))))) := by
  have tl := slV_tail (c := 64) (l := TL.numL n) (Nat.le_trans (Nat.succ_le_succ hl) (by decide))
  have it := sInt_num (n := n) (by omega)
  simp only [x_Layout_init_4]
  simp [bnd, getV, pur, op2, deref, lift, toI, tl, bltV, derefs, it, hE]
theorem lc_labs (hk : t.ok false) (hl : t.len ≤ 400) (hE : 4 < E.length) : lcN (tgN 4) [4] t_Layout_init_1 x_Layout_init_2 (t.words.map tx) E = .ok (.nw (.ow (t.labs.map tx))) (E.set 4 none) := by
  rw [lcN_tx (E := E) isLab (fun w => tx w.dropLast) hE (by rw [T.words_len]; exact Nat.le_trans hl (by decide)) fun w hw => ?_, labs_words, List.map_map]
  · congr 3
    apply List.map_congr_left
    intro s _
    simp
  · obtain ⟨h1, h2, h3⟩ := words_ok t false hk w hw
    exact ⟨t_lab h1 h3 hE, fun hp => x_lab hp h3 hE⟩
theorem lc_als (hk : t.ok false) (hl : t.len ≤ 400) (hE : 4 < E.length) : lcN (tgN 4) [4] t_Layout_init_3 x_Layout_init_4 (t.words.map tx) E = .ok (.nw (.ow ((t.exps.map fun k => (2 : Int) ^ k).map I))) (E.set 4 none) := by
  rw [lcN_tx (E := E) isAl (fun w => I (PySem.NumText.digitsVal w.tail : Nat)) hE (by rw [T.words_len]; exact Nat.le_trans hl (by decide)) fun w hw => ?_, exps_words t false hk, List.map_map, List.map_map]
  · congr 3
    apply List.map_congr_left
    intro k _
    show I ((PySem.NumText.digitsVal (TL.numL (2 ^ k)) : Nat) : Int) = I ((2 : Int) ^ k)
    rw [TL.numL_val, Int.natCast_pow]
    rfl
  · obtain ⟨h1, h2, h3⟩ := words_ok t false hk w hw
    refine ⟨t_al h1 h3 hE, fun hp => ?_⟩
    have hm : w ∈ t.words.filter isAl := List.mem_filter.mpr ⟨hw, hp⟩
    rw [exps_words t false hk] at hm
    obtain ⟨k, _, rfl⟩ := List.mem_map.mp hm
    have := x_al (E := E) (n := 2 ^ k) (by simp at h3; omega) hE
    rw [this]
    show Rz.ok (EV.fz (I ((2 ^ k : Nat) : Int))) _ = Rz.ok (EV.fz (I ((PySem.NumText.digitsVal (TL.numL (2 ^ k)) : Nat) : Int))) _
    rw [TL.numL_val]
theorem e_layout (h : Lay t) : bkM (F_Layout_init [.oi 10 [], .fz (tx t.text)]) ρ = .ok (.nw (.oi 10 t.flds)) ρ := by
  have e1 := fun ρ => e_words_of (ρ := ρ) h.ok h.len
  have e2 := fun ρ => e_first_wrong (ρ := ρ) h.ok h.len h.dp h.nov h.labs
  have e3 := fun ρ => e_nodes_in (ρ := ρ) h.ok h.len h.dp
  have e4 := fun (E : B.Env) (hE : 4 < E.length) => lc_labs (E := E) h.ok h.len hE
  have e5 := fun (E : B.Env) (hE : 4 < E.length) => lc_als (E := E) h.ok h.len hE
  have tp1 : sTupL [.lst (t.words.map tx)] = some (.fz (.tup (t.words.map tx))) := rfl
  have tp2 : sTupL [.lst (t.labs.map tx)] = some (.fz (.tup (t.labs.map tx))) := rfl
  have ll : t.exps.length ≤ 400 := by
    have := congrArg List.length (exps_words t false h.ok)
    rw [List.length_map] at this
    rw [← this]
    exact Nat.le_trans (List.length_filter_le _ _) (by rw [T.words_len]; exact h.len)
  have sz : 1 + (t.exps.map fun k => (2 : Int) ^ k).length ≤ sizeLine := by
    rw [List.length_map]
    exact Nat.le_trans (Nat.add_le_add_left ll 1) (by decide)
  have mx : sMaxL [.lst (I 1 :: (t.exps.map fun k => (2 : Int) ^ k).map I)] = some (.fz (I t.al)) := by
    have := liI_ints (1 :: t.exps.map fun k => (2 : Int) ^ k)
    simp only [List.map_cons] at this
    unfold sMaxL
    simp only [this]
    rfl
  simp only [F_Layout_init, g_Layout_init, g_Layout_init_5]
  generalize (t.exps.map fun k => (2 : Int) ^ k) = as at *
  generalize hws : t.words.map tx = ws at *
  generalize hls : t.labs.map tx = ls at *
  simp [fnB, plainA, Sl.own, doS, bnd, getV, pur, op2, deref, Sl.pv, lift, sPlus, sSub, sMul, sDiv, sMod, sPow, powC, modC, oor, sAdd, sI, sIc, fnR, outs, seq, nxt, unpS, tgT, tgs, ifS, tupV, lstV, frzs, frz, sIx, sLe, sLt, sGt, sGe, sAnd, toB, atI, ixN, setS, setIx, setFld, putN, orT, andV, andT, isiV, PV.kd, fldV, ownsA, chkI, chkN, chkK, parS, pass1, isi_str, e1, e2, e3, e4, e5, bltV, derefs, tp1, tp2, sNotN, isN, lcV, itemsL, sCatL, sCatS, sz, mx]
  exact ⟨hws.symm, hls.symm⟩
end
end L

set_option Elab.async false
set_option linter.all false
set_option maxRecDepth 100000
set_option maxHeartbeats 4000000
namespace L
open PySem L2 B
section
variable {ρ : B.Env}
theorem e_joined {n : Nat} {t o : Tr} (h : Wf n t) (h' : Wf n o) (hn : 62 ≤ n) (hn' : n ≤ 5000) : bk0 (F_joined [.fz t.pv, .fz o.pv]) ρ = .ok (.fz (t.join o).pv) ρ := by
  have bb : Bd n o.b := Bd.of h'.b0 (Int.le_of_lt h'.bm) (h'.pw.bd.mono (by omega))
  have bb' : Bd n t.b := Bd.of h.b0 (Int.le_of_lt h.bm) (h.pw.bd.mono (by omega))
  have b1 := h.bd.add bb
  have p1 : 0 ≤ t.a + o.b := Int.add_nonneg h.a0 h'.b0
  have b2 := cl_bd h.pw p1 b1 (by omega)
  have b3 := (bb'.mono (Nat.le_add_right n 2)).add b2
  simp only [F_joined, g_joined]
  by_cases l : o.m ≤ t.m
  · simp [fnB, plainA, Sl.own, doS, bnd, getV, pur, op2, deref, Sl.pv, lift, sPlus, sSub, sMul, sDiv, sMod, sPow, powC, modC, oor, sAdd, sI, sIc, fnR, outs, seq, nxt, unpS, tgT, tgs, tgN, ifS, tupV, lstV, frzs, frz, sIx, sLe, sLt, sGt, sGe, sAnd, toB, atI, ixN, setS, setIx, setFld, putN, orT, andV, andT, isiV, PV.kd, fldV, ownsA, chkI, chkN, chkK, parS, pass1, l, Tr.join, e_ceil h'.pw b1 (by omega)]
  · simp [fnB, plainA, Sl.own, doS, bnd, getV, pur, op2, deref, Sl.pv, lift, sPlus, sSub, sMul, sDiv, sMod, sPow, powC, modC, oor, sAdd, sI, sIc, fnR, outs, seq, nxt, unpS, tgT, tgs, tgN, ifS, tupV, lstV, frzs, frz, sIx, sLe, sLt, sGt, sGe, sAnd, toB, atI, ixN, setS, setIx, setFld, putN, orT, andV, andT, isiV, PV.kd, fldV, ownsA, chkI, chkN, chkK, parS, pass1, l, Tr.join, e_ceil h.pw b1 (by omega), e_red h'.pw b3 (by omega)]
theorem e_power {n : Nat} {t : Tr} {i : Int} (h : Wf n t) (bi : Bd 100 i) (hi : 0 ≤ i) (hn : 62 ≤ n) (hn' : n ≤ 5000) : bk0 (F_power_of [.fz t.pv, .fz (I i)]) ρ = .ok (.fz (t.pow i).pv) ρ := by
  have bb : Bd n t.b := Bd.of h.b0 (Int.le_of_lt h.bm) (h.pw.bd.mono (by omega))
  have p1 : 0 ≤ t.b + t.a := Int.add_nonneg h.b0 h.a0
  have b2 := cl_bd h.pw p1 (bb.add h.bd) (by omega)
  simp only [F_power_of, g_power_of]
  by_cases e : i = 0
  · simp [fnB, plainA, Sl.own, doS, bnd, getV, pur, op2, deref, Sl.pv, lift, sPlus, sSub, sMul, sDiv, sMod, sPow, powC, modC, oor, sAdd, sI, sIc, fnR, outs, seq, nxt, unpS, tgT, tgs, tgN, ifS, tupV, lstV, frzs, frz, sIx, sLe, sLt, sGt, sGe, sAnd, toB, atI, ixN, setS, setIx, setFld, putN, orT, andV, andT, isiV, PV.kd, fldV, ownsA, chkI, chkN, chkK, parS, pass1, e, Tr.pow]
  · have h2 : mulC (i - 1) (cl t.m (t.b + t.a)) = true := mulC_bd (Bd.of (by omega) (by omega) bi) b2 (by omega)
    simp [fnB, plainA, Sl.own, doS, bnd, getV, pur, op2, deref, Sl.pv, lift, sPlus, sSub, sMul, sDiv, sMod, sPow, powC, modC, oor, sAdd, sI, sIc, fnR, outs, seq, nxt, unpS, tgT, tgs, tgN, ifS, tupV, lstV, frzs, frz, sIx, sLe, sLt, sGt, sGe, sAnd, toB, atI, ixN, setS, setIx, setFld, putN, orT, andV, andT, isiV, PV.kd, fldV, ownsA, chkI, chkN, chkK, parS, pass1, e, Tr.pow, e_ceil h.pw (bb.add h.bd) (by omega), h2]
end
/-! ### sizes -/
abbrev Q62 : Int := 4611686018427387904
structure Wv (V : Int) (t : Tr) : Prop where
  pw : Pw t.m
  b0 : 0 ≤ t.b
  bm : t.b < t.m
  a0 : 0 ≤ t.a
  le : t.a ≤ V
theorem Wv.wf {V : Int} {n : Nat} {t : Tr} (h : Wv V t) (b : Bd n V) : Wf n t := ⟨h.pw, h.b0, h.bm, h.a0, Bd.of h.a0 h.le b⟩
theorem Wv.mono {V U : Int} {t : Tr} (h : Wv V t) (l : V ≤ U) : Wv U t := ⟨h.pw, h.b0, h.bm, h.a0, Int.le_trans h.le l⟩
theorem Pw.le60 {m : Int} (h : Pw m) : m ≤ 1152921504606846976 := by
  obtain ⟨k, hk, rfl⟩ := h
  have e : (1152921504606846976 : Int) = ((2 ^ 60 : Nat) : Int) := by decide
  rw [e, show (2 : Int) ^ k = ((2 ^ k : Nat) : Int) from (Int.natCast_pow 2 k).symm]
  exact Int.ofNat_le.mpr (Nat.pow_le_pow_right (by decide) hk)
theorem join_v {V U : Int} {t o : Tr} (h : Wv V t) (h' : Wv U o) : Wv (V + U + Q62) (t.join o) := by
  have p := h.pw.pos
  have p' := h'.pw.pos
  have m1 := h.pw.le60
  have m2 := h'.pw.le60
  have := h.b0; have := h.bm; have := h.a0; have := h.le
  have := h'.b0; have := h'.bm; have := h'.a0; have := h'.le
  unfold Tr.join
  split
  · have g1 := @cl_ge o.m (t.a + o.b) p'
    have g2 := @cl_lt o.m (t.a + o.b) p'
    exact ⟨h.pw, h.b0, h.bm, by show 0 ≤ cl o.m (t.a + o.b) + o.a; omega, by show cl o.m (t.a + o.b) + o.a ≤ _; unfold Q62; omega⟩
  · have g1 := @cl_ge t.m (t.a + o.b) p
    have g2 := @cl_lt t.m (t.a + o.b) p
    have h1 := Int.emod_add_mul_ediv (t.b + cl t.m (t.a + o.b)) o.m
    have h2 := Int.emod_nonneg (t.b + cl t.m (t.a + o.b)) (Int.ne_of_gt p')
    have h3 := Int.emod_lt_of_pos (t.b + cl t.m (t.a + o.b)) p'
    have h4 : 0 ≤ (t.b + cl t.m (t.a + o.b)) / o.m * o.m := Int.mul_nonneg (Int.ediv_nonneg (by omega) (by omega)) (by omega)
    rw [Int.mul_comm o.m] at h1
    exact ⟨h'.pw, h2, h3, by show 0 ≤ o.a + _; omega, by show o.a + (t.b + cl t.m (t.a + o.b)) / o.m * o.m ≤ _; unfold Q62; omega⟩
theorem pow_v {V i : Int} {t : Tr} (h : Wv V t) (hi : 1 ≤ i) : Wv (i * (V + Q62)) (t.pow i) := by
  have p := h.pw.pos
  have m1 := h.pw.le60
  have := h.b0; have := h.bm; have := h.a0; have := h.le
  have g1 := @cl_ge t.m (t.b + t.a) p
  have g2 := @cl_lt t.m (t.b + t.a) p
  unfold Tr.pow
  rw [if_neg (by omega)]
  have h1 : 0 ≤ (i - 1) * cl t.m (t.b + t.a) := Int.mul_nonneg (by omega) (by omega)
  have h2 : (i - 1) * cl t.m (t.b + t.a) ≤ (i - 1) * (V + Q62) := Int.mul_le_mul_of_nonneg_left (by unfold Q62; omega) (by omega)
  have h3 : i * (V + Q62) = (i - 1) * (V + Q62) + (V + Q62) := by rw [Int.sub_mul, Int.one_mul]; omega
  exact ⟨h.pw, h.b0, h.bm, by show 0 ≤ t.a + _; omega, by show t.a + _ ≤ _; rw [h3]; unfold Q62 at *; omega⟩
/-! ### the triple of a tree -/
def T.trip : Tr → T → Tr
  | t0, .nil => t0
  | t0, .size n r => trip (t0.join ⟨1, 0, n⟩) r
  | t0, .align k r => trip (t0.join ⟨2 ^ k, 0, 0⟩) r
  | t0, .label _ r => trip (t0.join one) r
  | t0, .rep t b r => trip (t0.join ((trip one b).pow t)) r
  | t0, .both _ _ r => trip (t0.join one) r
def T.vs : T → Int
  | .nil => 0
  | .size n r => n + Q62 + vs r
  | .align _ r => Q62 + vs r
  | .label _ r => Q62 + vs r
  | .rep t b r => (t : Int) * (vs b + Q62) + Q62 + vs r
  | .both x y r => vs x + vs y + Q62 + vs r
theorem one_v : Wv 0 one := ⟨Pw.one, by decide, by decide, by decide, by decide⟩
theorem size_v {n : Nat} : Wv n ⟨1, 0, n⟩ := ⟨Pw.one, by simp, by simp, by simp, by simp⟩
theorem align_v {k : Nat} (h : k ≤ 60) : Wv 0 ⟨2 ^ k, 0, 0⟩ := ⟨⟨k, h, rfl⟩, by simp, Int.pow_pos (by decide), by simp, by simp⟩
theorem vs_nonneg : ∀ t : T, 0 ≤ t.vs
  | .nil => by simp [T.vs]
  | .size n r => by have := vs_nonneg r; simp only [T.vs, Q62]; omega
  | .align k r => by have := vs_nonneg r; simp only [T.vs, Q62]; omega
  | .label s r => by have := vs_nonneg r; simp only [T.vs, Q62]; omega
  | .rep t x r => by
    have h1 := vs_nonneg r
    have h2 := vs_nonneg x
    have : 0 ≤ (t : Int) * (x.vs + Q62) := Int.mul_nonneg (by omega) (by unfold Q62; omega)
    simp only [T.vs, Q62] at *
    omega
  | .both x y r => by have := vs_nonneg r; have := vs_nonneg x; have := vs_nonneg y; simp only [T.vs, Q62]; omega
theorem trip_v : ∀ (t : T) (b : Bool) (V : Int) (t0 : Tr), t.ok b → Wv V t0 → Wv (V + t.vs) (t.trip t0)
  | .nil, b, V, t0, _, h => by simpa [T.vs, T.trip] using h
  | .size n r, b, V, t0, hk, h => by
    simp only [T.ok] at hk
    exact (trip_v r b _ _ hk.2 (join_v h size_v)).mono (by simp only [T.vs]; omega)
  | .align k r, b, V, t0, hk, h => by
    simp only [T.ok] at hk
    exact (trip_v r b _ _ hk.2.2 (join_v h (align_v hk.2.1))).mono (by simp only [T.vs]; omega)
  | .label s r, b, V, t0, hk, h => by
    simp only [T.ok] at hk
    exact (trip_v r b _ _ hk.2 (join_v h one_v)).mono (by simp only [T.vs]; omega)
  | .rep t x r, b, V, t0, hk, h => by
    simp only [T.ok] at hk
    have hx := trip_v x true 0 one hk.2.2.2.1 one_v
    exact (trip_v r b _ _ hk.2.2.2.2 (join_v h (pow_v hx (show (1 : Int) ≤ t by omega)))).mono (by simp only [T.vs, Int.zero_add]; omega)
  | .both x y r, b, V, t0, hk, h => by
    simp only [T.ok] at hk
    exact (trip_v r b _ _ hk.2.2.2 (join_v h one_v)).mono (by have := vs_nonneg x; have := vs_nonneg y; simp only [T.vs]; omega)
abbrev S104 : Int := 20282409603651670423947251286016
theorem s_pos (n : Nat) : 0 < S104 ^ n := Int.pow_pos (by decide)
theorem s_mono {n m : Nat} (h : n ≤ m) : S104 ^ n ≤ S104 ^ m := by
  obtain ⟨d, rfl⟩ := Nat.le.dest h
  rw [Int.pow_add]
  have h1 : S104 ^ n * 1 ≤ S104 ^ n * S104 ^ d := Int.mul_le_mul_of_nonneg_left (s_pos d) (Int.le_of_lt (s_pos n))
  rwa [Int.mul_one] at h1
theorem e30 {n : Nat} (h : n ≤ 10 ^ 30) : (n : Int) ≤ 1000000000000000000000000000000 := by
  have : (1000000000000000000000000000000 : Int) = ((10 ^ 30 : Nat) : Int) := by decide
  rw [this]
  exact_mod_cast h
theorem vs_one {l : Nat} {c v Z : Int} {D d : Nat} (hc : c ≤ S104) (hv : v ≤ l * S104 ^ (d + 1)) (hd : d ≤ D) : c + v ≤ ((l + 1 : Nat) : Int) * S104 ^ (D + 1) := by
  have h1 : S104 ^ 1 ≤ S104 ^ (D + 1) := s_mono (by omega)
  have h2 : (l : Int) * S104 ^ (d + 1) ≤ l * S104 ^ (D + 1) := Int.mul_le_mul_of_nonneg_left (s_mono (by omega)) (by omega)
  rw [Int.pow_one] at h1
  have h3 : ((l + 1 : Nat) : Int) * S104 ^ (D + 1) = l * S104 ^ (D + 1) + S104 ^ (D + 1) := by rw [show ((l + 1 : Nat) : Int) = (l : Int) + 1 by omega, Int.add_mul, Int.one_mul]
  rw [h3]
  generalize S104 ^ (D + 1) = Z at *
  omega
theorem vs_le : ∀ (t : T) (b : Bool), t.ok b → t.vs ≤ t.len * S104 ^ (t.dp + 1)
  | .nil, _, _ => by simp [T.vs, T.len]
  | .size n r, b, h => by
    simp only [T.ok] at h
    have := e30 h.1
    exact vs_one (Z := 0) (by unfold S104 Q62; omega) (vs_le r b h.2) (Nat.le_refl _)
  | .align k r, b, h => by
    simp only [T.ok] at h
    exact vs_one (Z := 0) (by decide) (vs_le r b h.2.2) (Nat.le_refl _)
  | .label s r, b, h => by
    simp only [T.ok] at h
    exact vs_one (Z := 0) (by decide) (vs_le r b h.2) (Nat.le_refl _)
  | .rep t x r, b, h => by
    simp only [T.ok] at h
    have hr := vs_le r b h.2.2.2.2
    have hx := vs_le x true h.2.2.2.1
    have hv := vs_nonneg x
    have ht := e30 h.2.1
    simp only [T.vs, T.len, T.dp]
    have D1 : x.dp + 1 ≤ max (x.dp + 1) r.dp := Nat.le_max_left _ _
    have D2 : r.dp ≤ max (x.dp + 1) r.dp := Nat.le_max_right _ _
    generalize max (x.dp + 1) r.dp = D at *
    have h1 : (t : Int) * x.vs ≤ S104 * (x.len * S104 ^ (x.dp + 1)) := Int.mul_le_mul (by unfold S104; omega) hx hv (by decide)
    have h2 : S104 * (x.len * S104 ^ (x.dp + 1)) = x.len * S104 ^ (x.dp + 1 + 1) := by rw [Int.pow_succ S104 (x.dp + 1), Int.mul_comm S104, Int.mul_assoc]
    have h3 : (x.len : Int) * S104 ^ (x.dp + 1 + 1) ≤ x.len * S104 ^ (D + 1) := Int.mul_le_mul_of_nonneg_left (s_mono (by omega)) (by omega)
    have h4 : (r.len : Int) * S104 ^ (r.dp + 1) ≤ r.len * S104 ^ (D + 1) := Int.mul_le_mul_of_nonneg_left (s_mono (by omega)) (by omega)
    have h5 : S104 ^ 2 ≤ S104 ^ (D + 1) := s_mono (by omega)
    have h6 : (t : Int) * Q62 ≤ 1000000000000000000000000000000 * Q62 := Int.mul_le_mul_of_nonneg_right ht (by decide)
    have h7 : (1000000000000000000000000000000 * Q62 + Q62 : Int) ≤ S104 ^ 2 := by decide
    have h8 : (((x.len + r.len + 2 : Nat) : Int)) * S104 ^ (D + 1) = x.len * S104 ^ (D + 1) + r.len * S104 ^ (D + 1) + S104 ^ (D + 1) + S104 ^ (D + 1) := by
      rw [show ((x.len + r.len + 2 : Nat) : Int) = (x.len : Int) + r.len + 1 + 1 by omega, Int.add_mul, Int.add_mul, Int.add_mul, Int.one_mul]
    have h9 := s_pos (D + 1)
    rw [h8, Int.mul_add]
    rw [h2] at h1
    generalize S104 ^ (D + 1) = Z at *
    generalize (x.len : Int) * S104 ^ (x.dp + 1 + 1) = A at *
    generalize (1000000000000000000000000000000 * Q62 : Int) = Bq at *
    generalize S104 ^ 2 = S2 at *
    omega
  | .both x y r, b, h => by
    simp only [T.ok] at h
    have hr := vs_le r b h.2.2.2
    have hx := vs_le x false h.2.1
    have hy := vs_le y false h.2.2.1
    simp only [T.vs, T.len, T.dp]
    have D1 : max x.dp y.dp + 1 ≤ max (max x.dp y.dp + 1) r.dp := Nat.le_max_left _ _
    have D2 : r.dp ≤ max (max x.dp y.dp + 1) r.dp := Nat.le_max_right _ _
    have D3 : x.dp ≤ max x.dp y.dp := Nat.le_max_left _ _
    have D4 : y.dp ≤ max x.dp y.dp := Nat.le_max_right _ _
    generalize max (max x.dp y.dp + 1) r.dp = D at *
    generalize max x.dp y.dp = F at *
    have h3 : (x.len : Int) * S104 ^ (x.dp + 1) ≤ x.len * S104 ^ (D + 1) := Int.mul_le_mul_of_nonneg_left (s_mono (by omega)) (by omega)
    have h4 : (y.len : Int) * S104 ^ (y.dp + 1) ≤ y.len * S104 ^ (D + 1) := Int.mul_le_mul_of_nonneg_left (s_mono (by omega)) (by omega)
    have h5 : (r.len : Int) * S104 ^ (r.dp + 1) ≤ r.len * S104 ^ (D + 1) := Int.mul_le_mul_of_nonneg_left (s_mono (by omega)) (by omega)
    have h6 : S104 ^ 1 ≤ S104 ^ (D + 1) := s_mono (by omega)
    have h7 : Q62 ≤ S104 ^ 1 := by decide
    have h8 : (((x.len + y.len + r.len + 3 : Nat) : Int)) * S104 ^ (D + 1) = x.len * S104 ^ (D + 1) + y.len * S104 ^ (D + 1) + r.len * S104 ^ (D + 1) + S104 ^ (D + 1) + S104 ^ (D + 1) + S104 ^ (D + 1) := by
      rw [show ((x.len + y.len + r.len + 3 : Nat) : Int) = (x.len : Int) + y.len + r.len + 1 + 1 + 1 by omega, Int.add_mul, Int.add_mul, Int.add_mul, Int.add_mul, Int.add_mul, Int.one_mul]
    have h9 := s_pos (D + 1)
    rw [h8]
    generalize S104 ^ (D + 1) = Z at *
    generalize S104 ^ 1 = S1 at *
    omega
theorem vs_bd {t : T} {b : Bool} (h : t.ok b) (hl : t.len ≤ 400) (hd : t.dp ≤ 12) : Bd 1400 t.vs := by
  have h1 := vs_le t b h
  have h2 : (t.len : Int) * S104 ^ (t.dp + 1) ≤ 400 * S104 ^ 13 := Int.mul_le_mul (by omega) (s_mono (by omega)) (Int.le_of_lt (s_pos _)) (by decide)
  exact Bd.of (vs_nonneg t) (Int.le_trans h1 h2) (by unfold Bd; decide +kernel)
theorem trip_wf {t : T} {b : Bool} (h : t.ok b) (hl : t.len ≤ 400) (hd : t.dp ≤ 12) : Wf 1400 (t.trip one) := (trip_v t b 0 one h one_v).wf (by rw [Int.zero_add]; exact vs_bd h hl hd)
end L

set_option Elab.async false
set_option linter.all false
set_option maxRecDepth 100000
set_option maxHeartbeats 4000000
namespace L
open PySem L2 B
section
variable {ρ : B.Env} {Fr : Fn} {n t : Nat} {k d : Nat} {p q r : PV} {ns : List PV} {tr : Tr}
theorem ix0 {ps : List PV} : sIx (.tup (p :: ps)) (I 0) = some (.fz p) := by
  show (atI (p :: ps) 0).map _ = _
  unfold atI ixN
  simp
theorem ix1 {ps : List PV} : sIx (.tup (p :: q :: ps)) (I 1) = some (.fz q) := by
  show (atI (p :: q :: ps) 1).map _ = _
  unfold atI ixN
  have : (1 : Int) < (ps.length : Int) + 1 + 1 := by omega
  simp [this]
theorem ix2 {ps : List PV} : sIx (.tup (p :: q :: r :: ps)) (I 2) = some (.fz r) := by
  show (atI (p :: q :: r :: ps) 2).map _ = _
  unfold atI ixN
  have : (2 : Int) < (ps.length : Int) + 1 + 1 + 1 := by omega
  simp [this]
theorem nt_size : bk0 (F_node_triple_at Fr [.fz (.tup [.at (.str "size"), I n, p])]) ρ = .ok (.fz (⟨1, 0, n⟩ : Tr).pv) ρ := by
  have e1 := sEq_st (a := "size") (b := "size")
  simp only [F_node_triple_at, g_node_triple]
  simp [fnB, plainA, Sl.own, doS, bnd, getV, pur, op2, deref, Sl.pv, lift, sPlus, sSub, sMul, sDiv, sMod, sPow, powC, modC, oor, sAdd, sI, sIc, fnR, outs, seq, nxt, unpS, tgT, tgs, tgN, ifS, tupV, lstV, frzs, frz, sLe, sLt, sGt, sGe, sAnd, toB, atI, ixN, setS, setIx, setFld, putN, orT, andV, andT, isiV, PV.kd, fldV, ownsA, chkI, chkN, chkK, parS, pass1, ix0, ix1, e1]
theorem nt_align : bk0 (F_node_triple_at Fr [.fz (.tup [.at (.str "align"), I ((2 ^ k : Nat) : Int), p])]) ρ = .ok (.fz (⟨2 ^ k, 0, 0⟩ : Tr).pv) ρ := by
  have e1 := sEq_st (a := "align") (b := "size")
  rw [decide_eq_false (by decide)] at e1
  have e2 := sEq_st (a := "align") (b := "align")
  have e3 : ((2 ^ k : Nat) : Int) = (2 : Int) ^ k := Int.natCast_pow 2 k
  rw [e3]
  simp only [F_node_triple_at, g_node_triple]
  simp [fnB, plainA, Sl.own, doS, bnd, getV, pur, op2, deref, Sl.pv, lift, sPlus, sSub, sMul, sDiv, sMod, sPow, powC, modC, oor, sAdd, sI, sIc, fnR, outs, seq, nxt, unpS, tgT, tgs, tgN, ifS, tupV, lstV, frzs, frz, sLe, sLt, sGt, sGe, sAnd, toB, atI, ixN, setS, setIx, setFld, putN, orT, andV, andT, isiV, PV.kd, fldV, ownsA, chkI, chkN, chkK, parS, pass1, ix0, ix1, e1, e2]
theorem nt_label {s : List Nat} : bk0 (F_node_triple_at Fr [.fz (.tup [.at (.str "label"), tx s, p])]) ρ = .ok (.fz one.pv) ρ := by
  have e1 := sEq_st (a := "label") (b := "size")
  rw [decide_eq_false (by decide)] at e1
  have e2 := sEq_st (a := "label") (b := "align")
  rw [decide_eq_false (by decide)] at e2
  have e3 := sEq_st (a := "label") (b := "repeat")
  rw [decide_eq_false (by decide)] at e3
  simp only [F_node_triple_at, g_node_triple]
  simp [fnB, plainA, Sl.own, doS, bnd, getV, pur, op2, deref, Sl.pv, lift, sPlus, sSub, sMul, sDiv, sMod, sPow, powC, modC, oor, sAdd, sI, sIc, fnR, outs, seq, nxt, unpS, tgT, tgs, tgN, ifS, tupV, lstV, frzs, frz, sLe, sLt, sGt, sGe, sAnd, toB, atI, ixN, setS, setIx, setFld, putN, orT, andV, andT, isiV, PV.kd, fldV, ownsA, chkI, chkN, chkK, parS, pass1, ix0, ix1, e1, e2, e3]
theorem nt_both : bk0 (F_node_triple_at Fr [.fz (.tup [.at (.str "overlay"), p, q, r])]) ρ = .ok (.fz one.pv) ρ := by
  have e1 := sEq_st (a := "overlay") (b := "size")
  rw [decide_eq_false (by decide)] at e1
  have e2 := sEq_st (a := "overlay") (b := "align")
  rw [decide_eq_false (by decide)] at e2
  have e3 := sEq_st (a := "overlay") (b := "repeat")
  rw [decide_eq_false (by decide)] at e3
  simp only [F_node_triple_at, g_node_triple]
  simp [fnB, plainA, Sl.own, doS, bnd, getV, pur, op2, deref, Sl.pv, lift, sPlus, sSub, sMul, sDiv, sMod, sPow, powC, modC, oor, sAdd, sI, sIc, fnR, outs, seq, nxt, unpS, tgT, tgs, tgN, ifS, tupV, lstV, frzs, frz, sLe, sLt, sGt, sGe, sAnd, toB, atI, ixN, setS, setIx, setFld, putN, orT, andV, andT, isiV, PV.kd, fldV, ownsA, chkI, chkN, chkK, parS, pass1, ix0, ix1, e1, e2, e3]
theorem nt_rep {n' : Nat} (h : Wf n' tr) (hn : 62 ≤ n') (hn' : n' ≤ 5000) (ht : t ≤ 10 ^ 30) (hF : ∀ ρ, bk0 (Fr [.fz (.tup ns)]) ρ = .ok (.fz tr.pv) ρ) : bk0 (F_node_triple_at Fr [.fz (.tup [.at (.str "repeat"), I t, .tup ns, p])]) ρ = .ok (.fz (tr.pow t).pv) ρ := by
  have e1 := sEq_st (a := "repeat") (b := "size")
  rw [decide_eq_false (by decide)] at e1
  have e2 := sEq_st (a := "repeat") (b := "align")
  rw [decide_eq_false (by decide)] at e2
  have e3 := sEq_st (a := "repeat") (b := "repeat")
  have b1 : Bd 100 (t : Int) := Bd.of (by omega) (e30 ht) (by unfold Bd; decide)
  have e4 := fun ρ => e_power (ρ := ρ) (i := t) h b1 (by omega) hn hn'
  generalize tr.pow t = u at *
  generalize tr = v at *
  simp only [F_node_triple_at, g_node_triple]
  simp [fnB, plainA, Sl.own, doS, bnd, getV, pur, op2, deref, Sl.pv, lift, sPlus, sSub, sMul, sDiv, sMod, sPow, powC, modC, oor, sAdd, sI, sIc, fnR, outs, seq, nxt, unpS, tgT, tgs, tgN, ifS, tupV, lstV, frzs, frz, sLe, sLt, sGt, sGe, sAnd, toB, atI, ixN, setS, setIx, setFld, putN, orT, andV, andT, isiV, PV.kd, fldV, ownsA, chkI, chkN, chkK, parS, pass1, ix0, ix1, ix2, e1, e2, e3, hF, e4]
def TF (Fr : Fn) (d : Nat) : Prop := ∀ (t : T) (b : Bool) (i : Nat) (ρ : B.Env), t.ok b → t.dp < d → Bd 1500 t.vs → bk0 (Fr [.fz (.tup (t.nodes i))]) ρ = .ok (.fz (t.trip one).pv) ρ
theorem tl_step {t0 o : Tr} {o0 : Option Sl} (h : Wf 1600 t0) (h' : Wf 1600 o) (e : ∀ ρ, bk0 (F_node_triple_at Fr [.fz p]) ρ = .ok (.fz o.pv) ρ) : g_triple_of_1 Fr [o0, some (.fz t0.pv), some (.fz p)] = .nx [o0, some (.fz (t0.join o).pv), some (.fz p)] := by
  have e2 := fun ρ => e_joined (ρ := ρ) h h' (by decide) (by decide)
  generalize t0.join o = u at *
  simp only [g_triple_of_1]
  simp [fnB, plainA, Sl.own, doS, bnd, getV, pur, op2, deref, Sl.pv, lift, sPlus, sSub, sMul, sDiv, sMod, sPow, powC, modC, oor, sAdd, sI, sIc, fnR, outs, seq, nxt, unpS, tgT, tgs, tgN, ifS, tupV, lstV, frzs, frz, sIx, sLe, sLt, sGt, sGe, sAnd, toB, atI, ixN, setS, setIx, setFld, putN, orT, andV, andT, isiV, PV.kd, fldV, ownsA, chkI, chkN, chkK, parS, pass1, e, e2]
theorem tl_loop (hF : TF Fr d) : ∀ (t : T) (b : Bool) (i : Nat) (V : Int) (t0 : Tr) (o0 o2 : Option Sl), t.ok b → t.dp ≤ d → Wv V t0 → Bd 1500 (V + t.vs) →
    ∃ p2, forS (tgN 2) (g_triple_of_1 Fr) (t.nodes i) [o0, some (.fz t0.pv), o2] = .nx [o0, some (.fz (t.trip t0).pv), p2]
  | .nil, b, i, V, t0, o0, o2, _, _, _, _ => ⟨o2, rfl⟩
  | .size n r, b, i, V, t0, o0, o2, hk, hd, hv, hb => by
    simp only [T.ok] at hk
    simp only [T.vs, T.dp] at hb hd
    have r0 := vs_nonneg r
    have v0 : 0 ≤ V := Int.le_trans hv.a0 hv.le
    have w1 : Wf 1600 t0 := (hv.wf (Bd.of v0 (by unfold Q62; omega) hb)).mono (by decide)
    have w2 : Wf 1600 ⟨1, 0, n⟩ := (size_v.wf (Bd.of (by omega) (by unfold Q62; omega) hb)).mono (by decide)
    obtain ⟨p2, e⟩ := tl_loop hF r b (i + 1) _ (t0.join ⟨1, 0, n⟩) o0 _ hk.2 hd (join_v hv size_v) (by rw [show V + n + Q62 + r.vs = V + (n + Q62 + r.vs) by omega]; exact hb)
    exact ⟨p2, (forS_nx rfl (tl_step w1 w2 fun ρ => nt_size)).trans e⟩
  | .align k r, b, i, V, t0, o0, o2, hk, hd, hv, hb => by
    simp only [T.ok] at hk
    simp only [T.vs, T.dp] at hb hd
    have r0 := vs_nonneg r
    have v0 : 0 ≤ V := Int.le_trans hv.a0 hv.le
    have w1 : Wf 1600 t0 := (hv.wf (Bd.of v0 (by unfold Q62; omega) hb)).mono (by decide)
    have w2 : Wf 1600 ⟨2 ^ k, 0, 0⟩ := ((align_v hk.2.1).wf (Bd.of (by omega) (by unfold Q62; omega) hb)).mono (by decide)
    obtain ⟨p2, e⟩ := tl_loop hF r b (i + 1) _ (t0.join ⟨2 ^ k, 0, 0⟩) o0 _ hk.2.2 hd (join_v hv (align_v hk.2.1)) (by rw [show V + 0 + Q62 + r.vs = V + (Q62 + r.vs) by omega]; exact hb)
    exact ⟨p2, (forS_nx rfl (tl_step w1 w2 fun ρ => nt_align)).trans e⟩
  | .label s r, b, i, V, t0, o0, o2, hk, hd, hv, hb => by
    simp only [T.ok] at hk
    simp only [T.vs, T.dp] at hb hd
    have r0 := vs_nonneg r
    have v0 : 0 ≤ V := Int.le_trans hv.a0 hv.le
    have w1 : Wf 1600 t0 := (hv.wf (Bd.of v0 (by unfold Q62; omega) hb)).mono (by decide)
    obtain ⟨p2, e⟩ := tl_loop hF r b (i + 1) _ (t0.join one) o0 _ hk.2 hd (join_v hv one_v) (by rw [show V + 0 + Q62 + r.vs = V + (Q62 + r.vs) by omega]; exact hb)
    exact ⟨p2, (forS_nx rfl (tl_step w1 one_wf fun ρ => nt_label)).trans e⟩
  | .rep t x r, b, i, V, t0, o0, o2, hk, hd, hv, hb => by
    simp only [T.ok] at hk
    simp only [T.vs, T.dp] at hb hd
    have r0 := vs_nonneg r
    have x0 := vs_nonneg x
    have v0 : 0 ≤ V := Int.le_trans hv.a0 hv.le
    have t1 : (1 : Int) ≤ t := by omega
    have m1 : 1 * (x.vs + Q62) ≤ t * (x.vs + Q62) := Int.mul_le_mul_of_nonneg_right t1 (by unfold Q62; omega)
    rw [Int.one_mul] at m1
    have hx := trip_v x true 0 one hk.2.2.2.1 one_v
    rw [Int.zero_add] at hx
    have hp := pow_v hx t1
    have w1 : Wf 1600 t0 := (hv.wf (Bd.of v0 (by unfold Q62 at *; omega) hb)).mono (by decide)
    have w2 : Wf 1600 ((x.trip one).pow t) := (hp.wf (Bd.of (by unfold Q62 at *; omega) (by unfold Q62 at *; omega) hb)).mono (by decide)
    have bx : Bd 1500 x.vs := Bd.of x0 (by unfold Q62 at *; omega) hb
    have w3 : Wf 1600 (x.trip one) := (hx.wf bx).mono (by decide)
    obtain ⟨p2, e⟩ := tl_loop hF r b (i + x.len + 2) _ (t0.join ((x.trip one).pow t)) o0 _ hk.2.2.2.2 (by omega) (join_v hv hp) (by rw [show V + t * (x.vs + Q62) + Q62 + r.vs = V + (t * (x.vs + Q62) + Q62 + r.vs) by omega]; exact hb)
    exact ⟨p2, (forS_nx rfl (tl_step w1 w2 fun ρ => nt_rep w3 (by decide) (by decide) hk.2.1 fun ρ => hF x true (i + 1) ρ hk.2.2.2.1 (by omega) bx)).trans e⟩
  | .both x y r, b, i, V, t0, o0, o2, hk, hd, hv, hb => by
    simp only [T.ok] at hk
    simp only [T.vs, T.dp] at hb hd
    have r0 := vs_nonneg r
    have x0 := vs_nonneg x
    have y0 := vs_nonneg y
    have v0 : 0 ≤ V := Int.le_trans hv.a0 hv.le
    have w1 : Wf 1600 t0 := (hv.wf (Bd.of v0 (by unfold Q62; omega) hb)).mono (by decide)
    obtain ⟨p2, e⟩ := tl_loop hF r b (i + x.len + y.len + 3) _ (t0.join one) o0 _ hk.2.2.2 (by omega) (join_v hv one_v) (Bd.of (by unfold Q62; omega) (by omega) hb)
    exact ⟨p2, (forS_nx rfl (tl_step w1 one_wf fun ρ => nt_both)).trans e⟩
theorem tf_step (hF : TF Fr d) : TF (fnB 1 3 [] (g_triple_of Fr)) (d + 1) := by
  intro t b i ρ hk hd hb
  obtain ⟨p2, e⟩ := tl_loop hF t b i 0 one (some (.fz (.tup (t.nodes i)))) none hk (by omega) one_v (by rw [Int.zero_add]; exact hb)
  have e1 : (doS (pur (.fz (.tup [.at (.int 1), .at (.int 0), .at (.int 0)]))) fun v => setS false 1 v) [some (.fz (.tup (t.nodes i))), none, none] = .nx [some (.fz (.tup (t.nodes i))), some (.fz one.pv), none] := rfl
  have e2 : (doS (getV 0) fun x => forM_ itemsT (tgN 2) (g_triple_of_1 Fr) x) [some (.fz (.tup (t.nodes i))), some (.fz one.pv), none] = .nx [some (.fz (.tup (t.nodes i))), some (.fz (t.trip one).pv), p2] := by
    rw [← e]
    simp [doS, getV, forM_, itemsT, frz]
  have e3 : (doS (getV 1) fun v ρ => So.rt v ρ) [some (.fz (.tup (t.nodes i))), some (.fz (t.trip one).pv), p2] = .rt (.fz (t.trip one).pv) [some (.fz (.tup (t.nodes i))), some (.fz (t.trip one).pv), p2] := rfl
  have fin := seq_nx e1 (seq_nx e2 e3)
  have fin' : g_triple_of Fr [some (.fz (.tup (t.nodes i))), none, none] = _ := fin
  generalize t.trip one = u at *
  simp [fnB, plainA, Sl.own]
  rw [fin']
  simp [fnR, outs]
theorem tf_all : ∀ n : Nat, TF (recB 1 3 [] g_triple_of n) n
  | 0 => fun t b i ρ hk ht => absurd ht (by omega)
  | n + 1 => tf_step (tf_all n)
theorem e_triple {t : T} {b : Bool} {i : Nat} (hk : t.ok b) (hd : t.dp ≤ 12) (hb : Bd 1500 t.vs) : bk0 (F_triple_of [.fz (.tup (t.nodes i))]) ρ = .ok (.fz (t.trip one).pv) ρ := tf_all 16 t b i ρ hk (by omega) hb
end
end L

set_option Elab.async false
set_option linter.all false
set_option maxRecDepth 100000
set_option maxHeartbeats 4000000
namespace L
open PySem L2 B
/-! ### where a tree leads from a start, as end_from computes it -/
def T.run : T → Int → Int
  | .nil, x => x
  | .size n r, x => run r (x + n)
  | .align k r, x => run r (cl (2 ^ k) x)
  | .label _ r, x => run r x
  | .rep t b r, x => run r (((b.trip one).pow t).end_ x)
  | .both p q r, x => run r (max (run p x) (run q x))
theorem end_up {V : Int} {t : Tr} {x : Int} (h : Wv V t) : x ≤ t.end_ x ∧ t.end_ x ≤ x + (V + Q62) := by
  have p := h.pw.pos
  have m1 := h.pw.le60
  have := h.b0; have := h.bm; have := h.a0; have := h.le
  have g1 := @cl_ge t.m (x + t.b) p
  have g2 := @cl_lt t.m (x + t.b) p
  unfold Tr.end_ Q62
  omega
theorem run_up : ∀ (t : T) (b : Bool) (x : Int), t.ok b → x ≤ t.run x ∧ t.run x ≤ x + t.vs
  | .nil, b, x, _ => by simp [T.run, T.vs]
  | .size n r, b, x, h => by
    simp only [T.ok] at h
    have := run_up r b (x + n) h.2
    simp only [T.run, T.vs, Q62]; omega
  | .align k r, b, x, h => by
    simp only [T.ok] at h
    have := run_up r b (cl (2 ^ k) x) h.2.2
    have pw : Pw (2 ^ k) := ⟨k, h.2.1, rfl⟩
    have g1 := @cl_ge (2 ^ k) x pw.pos
    have g2 := @cl_lt (2 ^ k) x pw.pos
    have := pw.le60
    simp only [T.run, T.vs, Q62]; omega
  | .label s r, b, x, h => by
    simp only [T.ok] at h
    have := run_up r b x h.2
    simp only [T.run, T.vs, Q62]; omega
  | .rep t y r, b, x, h => by
    simp only [T.ok] at h
    have hy := trip_v y true 0 one h.2.2.2.1 one_v
    rw [Int.zero_add] at hy
    have hp := end_up (x := x) (pow_v hy (show (1 : Int) ≤ t by omega))
    have := run_up r b (((y.trip one).pow t).end_ x) h.2.2.2.2
    simp only [T.run, T.vs]; omega
  | .both p q r, b, x, h => by
    simp only [T.ok] at h
    have h1 := run_up p false x h.2.1
    have h2 := run_up q false x h.2.2.1
    have := run_up r b (max (p.run x) (q.run x)) h.2.2.2
    have := vs_nonneg p
    have := vs_nonneg q
    simp only [T.run, T.vs, Q62]; omega
section
variable {ρ : B.Env} {Fr : Fn} {n d : Nat} {p : PV} {ns ms : List PV} {x y z : Int} {o0 : Option Sl} {kk : Str}
theorem el_step {o : Tr} {qs : List PV} (hk : kk ≠ "overlay") (w : Wf 1600 o) (bx : Bd 3000 x) (e : ∀ ρ, bk0 (F_node_triple [.fz (.tup (.at (.str kk) :: qs))]) ρ = .ok (.fz o.pv) ρ) : g_end_from_1 Fr [o0, some (.fz (I x)), some (.fz (.tup (.at (.str kk) :: qs)))] = .nx [o0, some (.fz (I (o.end_ x))), some (.fz (.tup (.at (.str kk) :: qs)))] := by
  have e1 := sEq_st (a := kk) (b := "overlay")
  rw [decide_eq_false hk] at e1
  have e2 := fun ρ => e_end (ρ := ρ) w bx (by decide) (by decide)
  generalize o.end_ x = u at *
  simp only [g_end_from_1]
  simp [fnB, plainA, Sl.own, doS, bnd, getV, pur, op2, deref, Sl.pv, lift, sPlus, sSub, sMul, sDiv, sMod, sPow, powC, modC, oor, sAdd, sI, sIc, fnR, outs, seq, nxt, unpS, tgT, tgs, tgN, ifS, tupV, lstV, frzs, frz, sLe, sLt, sGt, sGe, sAnd, toB, atI, ixN, setS, setIx, setFld, putN, orT, andV, andT, isiV, PV.kd, fldV, ownsA, chkI, chkN, chkK, parS, pass1, ix0, e1, e, e2]
theorem el_both (e1 : ∀ ρ, bk0 (Fr [.fz (.tup ns), .fz (I x)]) ρ = .ok (.fz (I y)) ρ) (e2 : ∀ ρ, bk0 (Fr [.fz (.tup ms), .fz (I x)]) ρ = .ok (.fz (I z)) ρ) : g_end_from_1 Fr [o0, some (.fz (I x)), some (.fz (.tup [.at (.str "overlay"), .tup ns, .tup ms, p]))] = .nx [o0, some (.fz (I (max y z))), some (.fz (.tup [.at (.str "overlay"), .tup ns, .tup ms, p]))] := by
  have e3 := sEq_st (a := "overlay") (b := "overlay")
  have mx : (if y < z then z else y) = max y z := by split <;> omega
  simp only [g_end_from_1]
  simp [fnB, plainA, Sl.own, doS, bnd, getV, pur, op2, deref, Sl.pv, lift, sPlus, sSub, sMul, sDiv, sMod, sPow, powC, modC, oor, sAdd, sI, sIc, fnR, outs, seq, nxt, unpS, tgT, tgs, tgN, ifS, tupV, lstV, frzs, frz, sLe, sLt, sGt, sGe, sAnd, toB, atI, ixN, setS, setIx, setFld, putN, orT, andV, andT, isiV, PV.kd, fldV, ownsA, chkI, chkN, chkK, parS, pass1, ix0, ix1, ix2, e1, e2, e3, bltV, derefs, sMax, s2I, mx]
def EF (Fr : Fn) (d : Nat) : Prop := ∀ (t : T) (b : Bool) (i : Nat) (x : Int) (ρ : B.Env), t.ok b → t.dp < d → t.dp ≤ 12 → Bd 1500 t.vs → 0 ≤ x → Bd 3000 (x + t.vs) → bk0 (Fr [.fz (.tup (t.nodes i)), .fz (I x)]) ρ = .ok (.fz (I (t.run x))) ρ
theorem size_end {x : Int} : (⟨1, 0, n⟩ : Tr).end_ x = x + n := by
  simp only [Tr.end_, Int.add_zero]
  rw [cl_of_dvd (by decide) ⟨x, by omega⟩]
theorem align_end {k : Nat} {x : Int} : (⟨2 ^ k, 0, 0⟩ : Tr).end_ x = cl (2 ^ k) x := by
  simp only [Tr.end_, Int.add_zero]
theorem el_loop (hF : EF Fr d) : ∀ (t : T) (b : Bool) (i : Nat) (x : Int) (o0 o2 : Option Sl), t.ok b → t.dp ≤ d → t.dp ≤ 12 → Bd 1500 t.vs → 0 ≤ x → Bd 3000 (x + t.vs) →
    ∃ p2, forS (tgN 2) (g_end_from_1 Fr) (t.nodes i) [o0, some (.fz (I x)), o2] = .nx [o0, some (.fz (I (t.run x))), p2]
  | .nil, b, i, x, o0, o2, _, _, _, _, _, _ => ⟨o2, rfl⟩
  | .size m r, b, i, x, o0, o2, hk, hd, hd', hv, hx, hb => by
    simp only [T.ok] at hk
    simp only [T.vs, T.dp] at hb hd hd' hv
    have r0 := vs_nonneg r
    have w : Wf 1600 ⟨1, 0, m⟩ := (size_v.wf (Bd.of (by omega) (by unfold Q62; omega) hv)).mono (by decide)
    obtain ⟨p2, e⟩ := el_loop hF r b (i + 1) (x + m) o0 _ hk.2 hd hd' (Bd.of r0 (by unfold Q62; omega) hv) (by omega) (Bd.of (by omega) (by unfold Q62; omega) hb)
    refine ⟨p2, (forS_nx rfl (el_step (by decide) w (Bd.of hx (by unfold Q62; omega) hb) fun ρ => nt_size)).trans ?_⟩
    rw [size_end]
    exact e
  | .align k r, b, i, x, o0, o2, hk, hd, hd', hv, hx, hb => by
    simp only [T.ok] at hk
    simp only [T.vs, T.dp] at hb hd hd' hv
    have r0 := vs_nonneg r
    have pw : Pw (2 ^ k) := ⟨k, hk.2.1, rfl⟩
    have g1 := @cl_ge (2 ^ k) x pw.pos
    have g2 := @cl_lt (2 ^ k) x pw.pos
    have := pw.le60
    have w : Wf 1600 ⟨2 ^ k, 0, 0⟩ := ((align_v hk.2.1).wf (n := 1600) (by unfold Bd; decide +kernel))
    obtain ⟨p2, e⟩ := el_loop hF r b (i + 1) (cl (2 ^ k) x) o0 _ hk.2.2 hd hd' (Bd.of r0 (by unfold Q62; omega) hv) (by omega) (Bd.of (by omega) (by unfold Q62; omega) hb)
    refine ⟨p2, (forS_nx rfl (el_step (by decide) w (Bd.of hx (by unfold Q62; omega) hb) fun ρ => nt_align)).trans ?_⟩
    rw [align_end]
    exact e
  | .label s r, b, i, x, o0, o2, hk, hd, hd', hv, hx, hb => by
    simp only [T.ok] at hk
    simp only [T.vs, T.dp] at hb hd hd' hv
    have r0 := vs_nonneg r
    obtain ⟨p2, e⟩ := el_loop hF r b (i + 1) x o0 _ hk.2 hd hd' (Bd.of r0 (by unfold Q62; omega) hv) (by omega) (Bd.of (by omega) (by unfold Q62; omega) hb)
    refine ⟨p2, (forS_nx rfl (el_step (by decide) (one_wf (n := 1600)) (Bd.of hx (by unfold Q62; omega) hb) fun ρ => nt_label)).trans ?_⟩
    rw [one_end]
    exact e
  | .rep t y r, b, i, x, o0, o2, hk, hd, hd', hv, hx, hb => by
    simp only [T.ok] at hk
    simp only [T.vs, T.dp] at hb hd hd' hv
    have r0 := vs_nonneg r
    have y0 := vs_nonneg y
    have t1 : (1 : Int) ≤ t := by omega
    have m1 : 1 * (y.vs + Q62) ≤ t * (y.vs + Q62) := Int.mul_le_mul_of_nonneg_right t1 (by unfold Q62; omega)
    rw [Int.one_mul] at m1
    have hy := trip_v y true 0 one hk.2.2.2.1 one_v
    rw [Int.zero_add] at hy
    have hp := pow_v hy t1
    have bv : Bd 1500 y.vs := Bd.of y0 (by unfold Q62 at *; omega) hv
    have w3 : Wf 1600 (y.trip one) := (hy.wf bv).mono (by decide)
    have w2 : Wf 1600 ((y.trip one).pow t) := (hp.wf (Bd.of (by unfold Q62 at *; omega) (by unfold Q62 at *; omega) hv)).mono (by decide)
    have up := end_up (x := x) hp
    obtain ⟨p2, e⟩ := el_loop hF r b (i + y.len + 2) (((y.trip one).pow t).end_ x) o0 _ hk.2.2.2.2 (by omega) (by omega) (Bd.of r0 (by unfold Q62 at *; omega) hv) (by omega) (Bd.of (by omega) (by omega) hb)
    exact ⟨p2, (forS_nx rfl (el_step (by decide) w2 (Bd.of hx (by unfold Q62 at *; omega) hb) fun ρ => nt_rep w3 (by decide) (by decide) hk.2.1 fun ρ => e_triple hk.2.2.2.1 (by omega) bv)).trans e⟩
  | .both p q r, b, i, x, o0, o2, hk, hd, hd', hv, hx, hb => by
    simp only [T.ok] at hk
    simp only [T.vs, T.dp] at hb hd hd' hv
    have r0 := vs_nonneg r
    have p0 := vs_nonneg p
    have q0 := vs_nonneg q
    have up := run_up p false x hk.2.1
    have uq := run_up q false x hk.2.2.1
    obtain ⟨p2, e⟩ := el_loop hF r b (i + p.len + q.len + 3) (max (p.run x) (q.run x)) o0 _ hk.2.2.2 (by omega) (by omega) (Bd.of r0 (by unfold Q62; omega) hv) (by omega) (Bd.of (by omega) (by unfold Q62; omega) hb)
    have e1 := fun ρ => hF p false (i + 1) x ρ hk.2.1 (by omega) (by omega) (Bd.of p0 (by unfold Q62; omega) hv) hx (Bd.of (by omega) (by unfold Q62; omega) hb)
    have e2 := fun ρ => hF q false (i + p.len + 2) x ρ hk.2.2.1 (by omega) (by omega) (Bd.of q0 (by unfold Q62; omega) hv) hx (Bd.of (by omega) (by unfold Q62; omega) hb)
    exact ⟨p2, (forS_nx rfl (el_both e1 e2)).trans e⟩
theorem ef_step (hF : EF Fr d) : EF (fnB 2 3 [] (g_end_from Fr)) (d + 1) := by
  intro t b i x ρ hk hd hd' hv hx hb
  obtain ⟨p2, e⟩ := el_loop hF t b i x (some (.fz (.tup (t.nodes i)))) none hk (by omega) hd' hv hx hb
  have e2 : (doS (getV 0) fun x => forM_ itemsT (tgN 2) (g_end_from_1 Fr) x) [some (.fz (.tup (t.nodes i))), some (.fz (I x)), none] = .nx [some (.fz (.tup (t.nodes i))), some (.fz (I (t.run x))), p2] := by
    rw [← e]
    simp [doS, getV, forM_, itemsT, frz]
  have e3 : (doS (getV 1) fun v ρ => So.rt v ρ) [some (.fz (.tup (t.nodes i))), some (.fz (I (t.run x))), p2] = .rt (.fz (I (t.run x))) [some (.fz (.tup (t.nodes i))), some (.fz (I (t.run x))), p2] := rfl
  have fin := seq_nx e2 e3
  have fin' : g_end_from Fr [some (.fz (.tup (t.nodes i))), some (.fz (I x)), none] = _ := fin
  generalize t.run x = u at *
  simp [fnB, plainA, Sl.own]
  rw [fin']
  simp [fnR, outs]
theorem ef_all : ∀ n : Nat, EF (recB 2 3 [] g_end_from n) n
  | 0 => fun t b i x ρ hk ht => absurd ht (by omega)
  | n + 1 => ef_step (ef_all n)
theorem e_end_from {t : T} {b : Bool} {i : Nat} {x : Int} (hk : t.ok b) (hd : t.dp ≤ 12) (hv : Bd 1500 t.vs) (hx : 0 ≤ x) (hb : Bd 3000 (x + t.vs)) : bk0 (F_end_from [.fz (.tup (t.nodes i)), .fz (I x)]) ρ = .ok (.fz (I (t.run x))) ρ := ef_all 16 t b i x ρ hk (by omega) hd hv hx hb
end
/-! ### bytes -/
def T.bytes : T → Int
  | .nil => 0
  | .size n r => n + bytes r
  | .align _ r => bytes r
  | .label _ r => bytes r
  | .rep t b r => t * bytes b + bytes r
  | .both _ _ r => bytes r
theorem bytes_up : ∀ (t : T), 0 ≤ t.bytes ∧ t.bytes ≤ t.vs
  | .nil => by simp [T.bytes, T.vs]
  | .size n r => by have := bytes_up r; simp only [T.bytes, T.vs, Q62]; omega
  | .align k r => by have := bytes_up r; simp only [T.bytes, T.vs, Q62]; omega
  | .label s r => by have := bytes_up r; simp only [T.bytes, T.vs, Q62]; omega
  | .rep t x r => by
    have h1 := bytes_up r
    have h2 := bytes_up x
    have h3 : 0 ≤ (t : Int) * x.bytes := Int.mul_nonneg (by omega) h2.1
    have h4 : (t : Int) * x.bytes ≤ t * (x.vs + Q62) := Int.mul_le_mul_of_nonneg_left (by unfold Q62; omega) (by omega)
    simp only [T.bytes, T.vs, Q62] at *; omega
  | .both x y r => by have := bytes_up r; have := vs_nonneg x; have := vs_nonneg y; simp only [T.bytes, T.vs, Q62]; omega
section
variable {ρ : B.Env} {Fr : Fn} {n d : Nat} {p : PV} {ns ms : List PV} {x y z : Int} {o0 : Option Sl} {kk : Str} {qs : List PV}
theorem bl_size : g_bytes_of_1 Fr [o0, some (.fz (I x)), some (.fz (.tup [.at (.str "size"), I y, p]))] = .nx [o0, some (.fz (I (x + y))), some (.fz (.tup [.at (.str "size"), I y, p]))] := by
  have e1 := sEq_st (a := "size") (b := "size")
  simp only [g_bytes_of_1]
  simp [fnB, plainA, Sl.own, doS, bnd, getV, pur, op2, deref, Sl.pv, lift, sPlus, sSub, sMul, sDiv, sMod, sPow, powC, modC, oor, sAdd, sI, sIc, fnR, outs, seq, nxt, unpS, tgT, tgs, tgN, ifS, tupV, lstV, frzs, frz, sLe, sLt, sGt, sGe, sAnd, toB, atI, ixN, setS, setIx, setFld, putN, orT, andV, andT, isiV, PV.kd, fldV, ownsA, chkI, chkN, chkK, parS, pass1, ix0, ix1, e1, augS]
theorem bl_other (h1 : kk ≠ "size") (h2 : kk ≠ "repeat") : g_bytes_of_1 Fr [o0, some (.fz (I x)), some (.fz (.tup (.at (.str kk) :: qs)))] = .nx [o0, some (.fz (I x)), some (.fz (.tup (.at (.str kk) :: qs)))] := by
  have e1 := sEq_st (a := kk) (b := "size")
  rw [decide_eq_false h1] at e1
  have e2 := sEq_st (a := kk) (b := "repeat")
  rw [decide_eq_false h2] at e2
  simp only [g_bytes_of_1]
  simp [fnB, plainA, Sl.own, doS, bnd, getV, pur, op2, deref, Sl.pv, lift, sPlus, sSub, sMul, sDiv, sMod, sPow, powC, modC, oor, sAdd, sI, sIc, fnR, outs, seq, nxt, unpS, tgT, tgs, tgN, ifS, tupV, lstV, frzs, frz, sLe, sLt, sGt, sGe, sAnd, toB, atI, ixN, setS, setIx, setFld, putN, orT, andV, andT, isiV, PV.kd, fldV, ownsA, chkI, chkN, chkK, parS, pass1, ix0, e1, e2]
theorem bl_rep {t : Nat} (ht : t ≤ 10 ^ 30) (by_ : Bd 3000 y) (e : ∀ ρ, bk0 (Fr [.fz (.tup ns)]) ρ = .ok (.fz (I y)) ρ) : g_bytes_of_1 Fr [o0, some (.fz (I x)), some (.fz (.tup [.at (.str "repeat"), I t, .tup ns, p]))] = .nx [o0, some (.fz (I (x + t * y))), some (.fz (.tup [.at (.str "repeat"), I t, .tup ns, p]))] := by
  have e1 := sEq_st (a := "repeat") (b := "size")
  rw [decide_eq_false (by decide)] at e1
  have e2 := sEq_st (a := "repeat") (b := "repeat")
  have b1 : Bd 100 (t : Int) := Bd.of (by omega) (e30 ht) (by unfold Bd; decide)
  have g : mulC t y = true := mulC_bd b1 by_
  simp only [g_bytes_of_1]
  simp [fnB, plainA, Sl.own, doS, bnd, getV, pur, op2, deref, Sl.pv, lift, sPlus, sSub, sMul, sDiv, sMod, sPow, powC, modC, oor, sAdd, sI, sIc, fnR, outs, seq, nxt, unpS, tgT, tgs, tgN, ifS, tupV, lstV, frzs, frz, sLe, sLt, sGt, sGe, sAnd, toB, atI, ixN, setS, setIx, setFld, putN, orT, andV, andT, isiV, PV.kd, fldV, ownsA, chkI, chkN, chkK, parS, pass1, ix0, ix1, ix2, e1, e2, augS, e, g]
def BF (Fr : Fn) (d : Nat) : Prop := ∀ (t : T) (b : Bool) (i : Nat) (ρ : B.Env), t.ok b → t.dp < d → Bd 1500 t.vs → bk0 (Fr [.fz (.tup (t.nodes i))]) ρ = .ok (.fz (I t.bytes)) ρ
theorem by_loop (hF : BF Fr d) : ∀ (t : T) (b : Bool) (i : Nat) (x : Int) (o0 o2 : Option Sl), t.ok b → t.dp ≤ d → Bd 1500 t.vs →
    ∃ p2, forS (tgN 2) (g_bytes_of_1 Fr) (t.nodes i) [o0, some (.fz (I x)), o2] = .nx [o0, some (.fz (I (x + t.bytes))), p2]
  | .nil, b, i, x, o0, o2, _, _, _ => ⟨o2, by simp [T.bytes, T.nodes, forS, nxt]⟩
  | .size m r, b, i, x, o0, o2, hk, hd, hv => by
    simp only [T.ok] at hk
    simp only [T.vs, T.dp] at hd hv
    have r0 := vs_nonneg r
    obtain ⟨p2, e⟩ := by_loop hF r b (i + 1) (x + m) o0 _ hk.2 hd (Bd.of r0 (by unfold Q62; omega) hv)
    refine ⟨p2, (forS_nx rfl bl_size).trans ?_⟩
    rw [e]
    simp only [T.bytes, Int.add_assoc]
  | .align k r, b, i, x, o0, o2, hk, hd, hv => by
    simp only [T.ok] at hk
    simp only [T.vs, T.dp] at hd hv
    have r0 := vs_nonneg r
    obtain ⟨p2, e⟩ := by_loop hF r b (i + 1) x o0 _ hk.2.2 hd (Bd.of r0 (by unfold Q62; omega) hv)
    exact ⟨p2, (forS_nx rfl (bl_other (by decide) (by decide))).trans e⟩
  | .label s r, b, i, x, o0, o2, hk, hd, hv => by
    simp only [T.ok] at hk
    simp only [T.vs, T.dp] at hd hv
    have r0 := vs_nonneg r
    obtain ⟨p2, e⟩ := by_loop hF r b (i + 1) x o0 _ hk.2 hd (Bd.of r0 (by unfold Q62; omega) hv)
    exact ⟨p2, (forS_nx rfl (bl_other (by decide) (by decide))).trans e⟩
  | .rep t y r, b, i, x, o0, o2, hk, hd, hv => by
    simp only [T.ok] at hk
    simp only [T.vs, T.dp] at hd hv
    have r0 := vs_nonneg r
    have y0 := vs_nonneg y
    have t1 : (1 : Int) ≤ t := by omega
    have m1 : 1 * (y.vs + Q62) ≤ t * (y.vs + Q62) := Int.mul_le_mul_of_nonneg_right t1 (by unfold Q62; omega)
    rw [Int.one_mul] at m1
    have bv : Bd 1500 y.vs := Bd.of y0 (by unfold Q62 at *; omega) hv
    have by_ := bytes_up y
    obtain ⟨p2, e⟩ := by_loop hF r b (i + y.len + 2) (x + t * y.bytes) o0 _ hk.2.2.2.2 (by omega) (Bd.of r0 (by unfold Q62 at *; omega) hv)
    refine ⟨p2, (forS_nx rfl (bl_rep hk.2.1 ((Bd.of by_.1 by_.2 bv).mono (by decide)) fun ρ => hF y true (i + 1) ρ hk.2.2.2.1 (by omega) bv)).trans ?_⟩
    rw [e]
    simp only [T.bytes, Int.add_assoc]
  | .both p q r, b, i, x, o0, o2, hk, hd, hv => by
    simp only [T.ok] at hk
    simp only [T.vs, T.dp] at hd hv
    have r0 := vs_nonneg r
    have p0 := vs_nonneg p
    have q0 := vs_nonneg q
    obtain ⟨p2, e⟩ := by_loop hF r b (i + p.len + q.len + 3) x o0 _ hk.2.2.2 (by omega) (Bd.of r0 (by unfold Q62; omega) hv)
    exact ⟨p2, (forS_nx rfl (bl_other (by decide) (by decide))).trans e⟩
theorem bf_step (hF : BF Fr d) : BF (fnB 1 3 [] (g_bytes_of Fr)) (d + 1) := by
  intro t b i ρ hk hd hv
  obtain ⟨p2, e⟩ := by_loop hF t b i 0 (some (.fz (.tup (t.nodes i)))) none hk (by omega) hv
  rw [Int.zero_add] at e
  have e1 : (doS (pur (.fz (.at (.int 0)))) fun v => setS false 1 v) [some (.fz (.tup (t.nodes i))), none, none] = .nx [some (.fz (.tup (t.nodes i))), some (.fz (I 0)), none] := rfl
  have e2 : (doS (getV 0) fun x => forM_ itemsT (tgN 2) (g_bytes_of_1 Fr) x) [some (.fz (.tup (t.nodes i))), some (.fz (I 0)), none] = .nx [some (.fz (.tup (t.nodes i))), some (.fz (I t.bytes)), p2] := by
    rw [← e]
    simp [doS, getV, forM_, itemsT, frz]
  have e3 : (doS (getV 1) fun v ρ => So.rt v ρ) [some (.fz (.tup (t.nodes i))), some (.fz (I t.bytes)), p2] = .rt (.fz (I t.bytes)) [some (.fz (.tup (t.nodes i))), some (.fz (I t.bytes)), p2] := rfl
  have fin := seq_nx e1 (seq_nx e2 e3)
  have fin' : g_bytes_of Fr [some (.fz (.tup (t.nodes i))), none, none] = _ := fin
  generalize t.bytes = u at *
  simp [fnB, plainA, Sl.own]
  rw [fin']
  simp [fnR, outs]
theorem bf_all : ∀ n : Nat, BF (recB 1 3 [] g_bytes_of n) n
  | 0 => fun t b i ρ hk ht => absurd ht (by omega)
  | n + 1 => bf_step (bf_all n)
theorem e_bytes {t : T} {b : Bool} {i : Nat} (hk : t.ok b) (hd : t.dp ≤ 12) (hb : Bd 1500 t.vs) : bk0 (F_bytes_of [.fz (.tup (t.nodes i))]) ρ = .ok (.fz (I t.bytes)) ρ := bf_all 16 t b i ρ hk (by omega) hb
end
end L

set_option Elab.async false
set_option linter.all false
set_option maxRecDepth 100000
set_option maxHeartbeats 4000000
namespace L
open PySem L2 B
/-! ### word by word -/
def itr : Nat → (Int → Int) → Int → Int
  | 0, _, x => x
  | n + 1, f, x => itr n f (f x)
theorem itr_succ (f : Int → Int) : ∀ (n : Nat) (x : Int), itr (n + 1) f x = f (itr n f x)
  | 0, x => rfl
  | n + 1, x => itr_succ f n (f x)
theorem itr_congr {f g : Int → Int} (h : ∀ x, f x = g x) : ∀ (n : Nat) (x : Int), itr n f x = itr n g x
  | 0, x => rfl
  | n + 1, x => by show itr n f (f x) = itr n g (g x); rw [h x]; exact itr_congr h n _
def T.go : T → Int → Int
  | .nil, x => x
  | .size n r, x => go r (x + n)
  | .align k r, x => go r (cl (2 ^ k) x)
  | .label _ r, x => go r x
  | .rep t b r, x => go r (itr t (go b) x)
  | .both p q r, x => go r (max (go p x) (go q x))
def T.plain : T → Bool
  | .nil => true
  | .size _ r => plain r
  | .align _ r => plain r
  | .label _ r => plain r
  | .rep _ b r => plain b && plain r
  | .both _ _ _ => false
theorem ok_plain : ∀ (t : T), t.ok true → t.plain = true
  | .nil, _ => rfl
  | .size n r, h => by simp only [T.ok] at h; exact ok_plain r h.2
  | .align k r, h => by simp only [T.ok] at h; exact ok_plain r h.2.2
  | .label s r, h => by simp only [T.ok] at h; exact ok_plain r h.2
  | .rep t b r, h => by
    simp only [T.ok] at h
    simp only [T.plain, ok_plain b h.2.2.2.1, ok_plain r h.2.2.2.2, Bool.and_self]
  | .both p q r, h => by simp [T.ok] at h
theorem plain_ok : ∀ (t : T) (b : Bool), t.ok b → t.plain = true → t.ok true
  | .nil, b, _, _ => trivial
  | .size n r, b, h, p => by simp only [T.ok] at h ⊢; exact ⟨h.1, plain_ok r b h.2 p⟩
  | .align k r, b, h, p => by simp only [T.ok] at h ⊢; exact ⟨h.1, h.2.1, plain_ok r b h.2.2 p⟩
  | .label s r, b, h, p => by simp only [T.ok] at h ⊢; exact ⟨h.1, plain_ok r b h.2 p⟩
  | .rep t x r, b, h, p => by
    simp only [T.ok] at h ⊢
    simp only [T.plain, Bool.and_eq_true] at p
    exact ⟨h.1, h.2.1, h.2.2.1, h.2.2.2.1, plain_ok r b h.2.2.2.2 p.2⟩
  | .both p q r, b, h, hp => by simp [T.plain] at hp
theorem num_no {n c : Nat} (h : c < 48 ∨ 57 < c) : [c] ≠ TL.numL n := fun e => by
  have := TL.numL_digits n c (by rw [← e]; simp)
  omega
theorem mem_ob : ∀ (t : T) (b : Bool), t.ok b → (decide ([123] ∈ t.words)) = !t.plain
  | .nil, b, _ => rfl
  | .size n r, b, h => by
    simp only [T.ok] at h
    have := mem_ob r b h.2
    have ne : ¬ [123] = TL.numL n := num_no (by decide)
    simpa [T.words, T.plain, ne] using this
  | .align k r, b, h => by
    simp only [T.ok] at h
    have := mem_ob r b h.2.2
    simpa [T.words, T.plain] using this
  | .label s r, b, h => by
    simp only [T.ok] at h
    have := mem_ob r b h.2
    have ne : ¬ [123] = s ++ [58] := fun e => by
      have := congrArg List.getLast? e
      simp at this
    simpa [T.words, T.plain, ne] using this
  | .rep t x r, b, h => by
    simp only [T.ok] at h
    have h1 := mem_ob r b h.2.2.2.2
    have h2 := mem_ob x true h.2.2.2.1
    have px := ok_plain x h.2.2.2.1
    rw [px] at h2
    have h2' : [123] ∉ x.words := by simpa using h2
    simp only [T.words, T.plain, px, Bool.true_and]
    rw [← h1]
    simp [h2']
  | .both p q r, b, h => by simp [T.words, T.plain]
theorem wv_wf {V : Int} {t : Tr} (h : Wv V t) : Wf (max 62 V.natAbs) t := (h.wf (n := V.natAbs) (by unfold Bd; exact Nat.lt_two_pow_self)).mono (Nat.le_max_right _ _)
theorem pow_end {V : Int} {tr : Tr} (h : Wv V tr) : ∀ (i : Nat) (x : Int), i + 1 ≤ 10 ^ 30 → (tr.pow ((i + 1 : Nat) : Int)).end_ x = itr (i + 1) tr.end_ x
  | 0, x, _ => by
    rw [show ((0 + 1 : Nat) : Int) = 1 from rfl, pow_one]
    rfl
  | i + 1, x, hi => by
    have w := wv_wf h
    have b1 : Bd 100 ((i + 1 : Nat) : Int) := Bd.of (by omega) (e30 (by omega)) (by unfold Bd; decide)
    have e := pow_succ (i := ((i + 1 : Nat) : Int)) w (by omega) b1 (Nat.le_max_left _ _)
    have e2 : ((i + 1 + 1 : Nat) : Int) = ((i + 1 : Nat) : Int) + 1 := by omega
    rw [e2, ← e, join_end (pow_wf w (by omega) b1 (Nat.le_max_left _ _)) w, pow_end h i x (by omega)]
    exact (itr_succ tr.end_ (i + 1) x).symm
theorem trip_end : ∀ (t : T) (V : Int) (t0 : Tr) (x : Int), t.ok true → Wv V t0 → (t.trip t0).end_ x = t.go (t0.end_ x)
  | .nil, V, t0, x, _, _ => rfl
  | .size n r, V, t0, x, h, w => by
    simp only [T.ok] at h
    simp only [T.trip, T.go]
    rw [trip_end r _ _ x h.2 (join_v w size_v), join_end (wv_wf w) (wv_wf size_v), size_end]
  | .align k r, V, t0, x, h, w => by
    simp only [T.ok] at h
    simp only [T.trip, T.go]
    rw [trip_end r _ _ x h.2.2 (join_v w (align_v h.2.1)), join_end (wv_wf w) (wv_wf (align_v h.2.1)), align_end]
  | .label s r, V, t0, x, h, w => by
    simp only [T.ok] at h
    simp only [T.trip, T.go]
    rw [trip_end r _ _ x h.2 (join_v w one_v), join_end (wv_wf w) (wv_wf one_v), one_end]
  | .rep t b r, V, t0, x, h, w => by
    simp only [T.ok] at h
    obtain ⟨h2, ht, hb, kb, kr⟩ := h
    have hx := trip_v b true 0 one kb one_v
    have hp := pow_v hx (show (1 : Int) ≤ t by omega)
    simp only [T.trip, T.go]
    rw [trip_end r _ _ x kr (join_v w hp), join_end (wv_wf w) (wv_wf hp)]
    obtain ⟨i, rfl⟩ : ∃ i, t = i + 1 := ⟨t - 1, by omega⟩
    rw [pow_end hx i _ ht, itr_congr fun y => (trip_end b 0 one y kb one_v).trans (by rw [one_end])]
  | .both p q r, V, t0, x, h, w => by simp [T.ok] at h
theorem run_go : ∀ (t : T) (b : Bool) (x : Int), t.ok b → t.run x = t.go x
  | .nil, b, x, _ => rfl
  | .size n r, b, x, h => by simp only [T.ok] at h; exact run_go r b _ h.2
  | .align k r, b, x, h => by simp only [T.ok] at h; exact run_go r b _ h.2.2
  | .label s r, b, x, h => by simp only [T.ok] at h; exact run_go r b _ h.2
  | .rep t y r, b, x, h => by
    simp only [T.ok] at h
    obtain ⟨h2, ht, hb, kb, kr⟩ := h
    have hx := trip_v y true 0 one kb one_v
    simp only [T.run, T.go]
    obtain ⟨i, rfl⟩ : ∃ i, t = i + 1 := ⟨t - 1, by omega⟩
    rw [run_go r b _ kr, pow_end hx i _ ht, itr_congr fun y => (trip_end _ 0 one y kb one_v).trans (by rw [one_end])]
  | .both p q r, b, x, h => by
    simp only [T.ok] at h
    simp only [T.run, T.go]
    rw [run_go r b _ h.2.2.2, run_go p false _ h.2.1, run_go q false _ h.2.2.1]
/-! ### its modulus -/
theorem maxI_app : ∀ (xs ys : List Int) (n : Int), maxI n (xs ++ ys) = maxI (maxI n xs) ys
  | [], ys, n => rfl
  | x :: xs, ys, n => maxI_app xs ys (max n x)
theorem maxI_max : ∀ (xs : List Int) (n m : Int), maxI (max n m) xs = max n (maxI m xs)
  | [], n, m => rfl
  | x :: xs, n, m => by
    show maxI (max (max n m) x) xs = max n (maxI (max m x) xs)
    rw [Int.max_assoc, maxI_max xs n (max m x)]
theorem trip_m : ∀ (t : T) (t0 : Tr), t.ok true → 1 ≤ t0.m → (t.trip t0).m = maxI t0.m (t.exps.map fun k => (2 : Int) ^ k)
  | .nil, t0, _, _ => rfl
  | .size n r, t0, h, h1 => by
    simp only [T.ok] at h
    simp only [T.trip, T.exps]
    rw [trip_m r _ h.2 (by rw [join_m]; simp only; omega), join_m]
    simp only
    rw [Int.max_eq_left h1]
  | .align k r, t0, h, h1 => by
    simp only [T.ok] at h
    simp only [T.trip, T.exps, List.map_cons]
    rw [trip_m r _ h.2.2 (by rw [join_m]; simp only; omega), join_m]
    rfl
  | .label s r, t0, h, h1 => by
    simp only [T.ok] at h
    simp only [T.trip, T.exps]
    rw [trip_m r _ h.2 (by rw [join_m]; simp only; omega), join_m]
    simp only
    rw [Int.max_eq_left h1]
  | .rep t b r, t0, h, h1 => by
    simp only [T.ok] at h
    obtain ⟨h2, ht, hb, kb, kr⟩ := h
    simp only [T.trip, T.exps, List.map_append]
    have pm : ((b.trip one).pow t).m = (b.trip one).m := by
      unfold Tr.pow
      rw [if_neg (by omega)]
    have e := trip_m b one kb (by decide)
    rw [trip_m r _ kr (by rw [join_m]; omega), join_m, pm, e, maxI_app]
    have : maxI t0.m (b.exps.map fun k => (2 : Int) ^ k) = max t0.m (maxI 1 (b.exps.map fun k => (2 : Int) ^ k)) := by
      rw [← maxI_max, Int.max_eq_left h1]
    rw [this]
  | .both p q r, t0, h, h1 => by simp [T.ok] at h
theorem trip_al {t : T} (h : t.ok true) : (t.trip one).m = t.al := trip_m t one h (by decide)
end L

set_option Elab.async false
set_option linter.all false
set_option maxRecDepth 100000
set_option maxHeartbeats 4000000
namespace L
open PySem L2 B
section
variable {ρ : B.Env} {t : T} {x y : Int}
theorem isi_lay : isi_Layout (PV.kd t.lay) = some true := rfl
theorem e_req_lay : bk0 (F_require_layout [.fz t.lay]) ρ = .ok (.fz (.at .non)) ρ := by
  simp only [F_require_layout, g_require_layout]
  simp [fnB, plainA, Sl.own, doS, bnd, getV, pur, op2, deref, Sl.pv, lift, sPlus, sSub, sMul, sDiv, sMod, sPow, powC, modC, oor, sAdd, sI, sIc, fnR, outs, seq, nxt, unpS, tgT, tgs, tgN, ifS, tupV, lstV, frzs, frz, sIx, sLe, sLt, sGt, sGe, sAnd, toB, atI, ixN, setS, setIx, setFld, putN, orT, andV, andT, isiV, PV.kd, fldV, ownsA, chkI, chkN, chkK, parS, pass1, isi_Layout]
theorem e_is_plain (h : Lay t) : bk0 (noex F_Layout_is_plain [.fz t.lay]) ρ = .ok (.fz (.at (.bl t.plain))) ρ := by
  have e := sIn_txT (neg := true) (a := [123]) (ws := t.words)
  rw [mem_ob t false h.ok] at e
  simp only [F_Layout_is_plain, g_Layout_is_plain, noex, k_ob]
  simp only [if_true, Bool.not_not] at e
  simp [fnB, plainA, Sl.own, doS, bnd, getV, pur, op2, deref, Sl.pv, lift, sPlus, sSub, sMul, sDiv, sMod, sPow, powC, modC, oor, sAdd, sI, sIc, fnR, outs, seq, nxt, unpS, tgT, tgs, tgN, ifS, tupV, lstV, frzs, frz, sIx, sLe, sLt, sGt, sGe, sAnd, toB, atI, ixN, setS, setIx, setFld, putN, orT, andV, andT, isiV, PV.kd, fldV, ownsA, chkI, chkN, chkK, parS, pass1, List.lookup, e]
theorem e_alignment : bk0 (noex F_Layout_alignment [.fz t.lay]) ρ = .ok (.fz (I t.al)) ρ := by
  simp only [F_Layout_alignment, g_Layout_alignment, noex]
  simp [fnB, plainA, Sl.own, doS, bnd, getV, pur, op2, deref, Sl.pv, lift, sPlus, sSub, sMul, sDiv, sMod, sPow, powC, modC, oor, sAdd, sI, sIc, fnR, outs, seq, nxt, unpS, tgT, tgs, tgN, ifS, tupV, lstV, frzs, frz, sIx, sLe, sLt, sGt, sGe, sAnd, toB, atI, ixN, setS, setIx, setFld, putN, orT, andV, andT, isiV, PV.kd, fldV, ownsA, chkI, chkN, chkK, parS, pass1, List.lookup]
theorem e_req_plain (h : Lay t) (p : t.plain = true) : bk0 (F_require_plain [.fz t.lay]) ρ = .ok (.fz (.at .non)) ρ := by
  have e1 := fun ρ => e_req_lay (ρ := ρ) (t := t)
  have e2 := fun ρ => e_is_plain (ρ := ρ) h
  rw [p] at e2
  simp only [F_require_plain, g_require_plain]
  simp [fnB, plainA, Sl.own, doS, bnd, getV, pur, op2, deref, Sl.pv, lift, sPlus, sSub, sMul, sDiv, sMod, sPow, powC, modC, oor, sAdd, sI, sIc, fnR, outs, seq, nxt, unpS, tgT, tgs, tgN, ifS, tupV, lstV, frzs, frz, sIx, sLe, sLt, sGt, sGe, sAnd, toB, atI, ixN, setS, setIx, setFld, putN, orT, andV, andT, isiV, PV.kd, fldV, ownsA, chkI, chkN, chkK, parS, pass1, e1, e2]
theorem e_nodes_of : bk0 (F_nodes_of [.fz t.lay]) ρ = .ok (.fz (.tup (t.nodes 0))) ρ := by
  simp only [F_nodes_of, g_nodes_of]
  simp [fnB, plainA, Sl.own, doS, bnd, getV, pur, op2, deref, Sl.pv, lift, sPlus, sSub, sMul, sDiv, sMod, sPow, powC, modC, oor, sAdd, sI, sIc, fnR, outs, seq, nxt, unpS, tgT, tgs, tgN, ifS, tupV, lstV, frzs, frz, sIx, sLe, sLt, sGt, sGe, sAnd, toB, atI, ixN, setS, setIx, setFld, putN, orT, andV, andT, isiV, PV.kd, fldV, ownsA, chkI, chkN, chkK, parS, pass1, List.lookup]
theorem Lay.vs (h : Lay t) : Bd 1500 t.vs := (vs_bd h.ok h.len h.dp).mono (by decide)
theorem Lay.wf (h : Lay t) : Wf 1400 (t.trip one) := trip_wf h.ok h.len h.dp
theorem e_tri (h : Lay t) : bk0 (F_triple_of [.fz (.tup (t.nodes 0))]) ρ = .ok (.fz (t.trip one).pv) ρ := e_triple h.ok h.dp h.vs
theorem e_padding (h : Lay t) (p : t.plain = true) (hx : 0 ≤ x) (bx : Bd 2000 x) : bk0 (F_padding [.fz t.lay, .fz (I x)]) ρ = .ok (.fz (I (t.go x - x - t.bytes))) ρ := by
  have e1 := fun ρ => e_req_plain (ρ := ρ) h p
  have e2 := fun ρ => e_start (ρ := ρ) hx
  have e3 := fun ρ => e_nodes_of (ρ := ρ) (t := t)
  have e5 := fun ρ => e_bytes (ρ := ρ) (i := 0) h.ok h.dp h.vs
  have e4 := fun ρ => e_end_from (ρ := ρ) (i := 0) h.ok h.dp h.vs hx ((bx.add (h.vs.mono (by decide))).mono (by decide))
  rw [run_go t false x h.ok] at e4
  simp only [F_padding, g_padding]
  simp [fnB, plainA, Sl.own, doS, bnd, getV, pur, op2, deref, Sl.pv, lift, sPlus, sSub, sMul, sDiv, sMod, sPow, powC, modC, oor, sAdd, sI, sIc, fnR, outs, seq, nxt, unpS, tgT, tgs, tgN, ifS, tupV, lstV, frzs, frz, sIx, sLe, sLt, sGt, sGe, sAnd, toB, atI, ixN, setS, setIx, setFld, putN, orT, andV, andT, isiV, PV.kd, fldV, ownsA, chkI, chkN, chkK, parS, pass1, e1, e2, e3, e4, e5]
/-- the least padding -/
def T.least (t : T) : Int := (t.trip one).b + (t.trip one).a - t.bytes
theorem e_padding_range (h : Lay t) (p : t.plain = true) : bk0 (F_padding_range [.fz t.lay]) ρ = .ok (.fz (.tup [I t.least, I (t.least + (t.trip one).m - 1)])) ρ := by
  have e1 := fun ρ => e_req_plain (ρ := ρ) h p
  have e3 := fun ρ => e_nodes_of (ρ := ρ) (t := t)
  have e4 := fun ρ => e_tri (ρ := ρ) h
  have e5 := fun ρ => e_bytes (ρ := ρ) (i := 0) h.ok h.dp h.vs
  unfold T.least
  simp only [F_padding_range, g_padding_range]
  generalize t.trip one = u at *
  simp [fnB, plainA, Sl.own, doS, bnd, getV, pur, op2, deref, Sl.pv, lift, sPlus, sSub, sMul, sDiv, sMod, sPow, powC, modC, oor, sAdd, sI, sIc, fnR, outs, seq, nxt, unpS, tgT, tgs, tgN, ifS, tupV, lstV, frzs, frz, sIx, sLe, sLt, sGt, sGe, sAnd, toB, atI, ixN, setS, setIx, setFld, putN, orT, andV, andT, isiV, PV.kd, fldV, ownsA, chkI, chkN, chkK, parS, pass1, e1, e3, e4, e5]
theorem e_swp (h : Lay t) (p : t.plain = true) : bk0 (F_starts_with_padding [.fz t.lay, .fz (I y)]) ρ = .ok (.fz (if t.least ≤ y ∧ y ≤ t.least + (t.trip one).m - 1 then .tup [I ((t.least - y - (t.trip one).b) % (t.trip one).m), I 1, I (t.trip one).m] else .at .non)) ρ := by
  have e1 := fun ρ => e_req_plain (ρ := ρ) h p
  have e3 := fun ρ => e_nodes_of (ρ := ρ) (t := t)
  have e4 := fun ρ => e_tri (ρ := ρ) h
  have e5 := fun ρ => e_padding_range (ρ := ρ) h p
  have e6 : ∀ ρ, bk0 (F_require_number [.fz (I y)]) ρ = .ok (.fz (.at .non)) ρ := fun ρ => by
    have := fun ρ => e_is_int (ρ := ρ) (x := y)
    simp only [F_require_number, g_require_number]
    simp [fnB, plainA, Sl.own, doS, bnd, getV, pur, op2, deref, Sl.pv, lift, sPlus, sSub, sMul, sDiv, sMod, sPow, powC, modC, oor, sAdd, sI, sIc, fnR, outs, seq, nxt, unpS, tgT, tgs, tgN, ifS, tupV, lstV, frzs, frz, sIx, sLe, sLt, sGt, sGe, sAnd, toB, atI, ixN, setS, setIx, setFld, putN, orT, andV, andT, isiV, PV.kd, fldV, ownsA, chkI, chkN, chkK, parS, pass1, this]
  have pm := h.wf.pw.pos
  simp only [F_starts_with_padding, g_starts_with_padding]
  generalize t.trip one = u at *
  by_cases c1 : t.least ≤ y
  · by_cases c2 : y ≤ t.least + u.m - 1
    · simp [fnB, plainA, Sl.own, doS, bnd, getV, pur, op2, deref, Sl.pv, lift, sPlus, sSub, sMul, sDiv, sMod, sPow, powC, modC, oor, sAdd, sI, sIc, fnR, outs, seq, nxt, unpS, tgT, tgs, tgN, ifS, tupV, lstV, frzs, frz, sIx, sLe, sLt, sGt, sGe, sAnd, toB, atI, ixN, setS, setIx, setFld, putN, orT, andV, andT, isiV, PV.kd, fldV, ownsA, chkI, chkN, chkK, parS, pass1, e1, e3, e4, e5, e6, chainT, c1, c2, pm]
    · simp [fnB, plainA, Sl.own, doS, bnd, getV, pur, op2, deref, Sl.pv, lift, sPlus, sSub, sMul, sDiv, sMod, sPow, powC, modC, oor, sAdd, sI, sIc, fnR, outs, seq, nxt, unpS, tgT, tgs, tgN, ifS, tupV, lstV, frzs, frz, sIx, sLe, sLt, sGt, sGe, sAnd, toB, atI, ixN, setS, setIx, setFld, putN, orT, andV, andT, isiV, PV.kd, fldV, ownsA, chkI, chkN, chkK, parS, pass1, e1, e3, e4, e5, e6, chainT, c1, c2, pm]
  · simp [fnB, plainA, Sl.own, doS, bnd, getV, pur, op2, deref, Sl.pv, lift, sPlus, sSub, sMul, sDiv, sMod, sPow, powC, modC, oor, sAdd, sI, sIc, fnR, outs, seq, nxt, unpS, tgT, tgs, tgN, ifS, tupV, lstV, frzs, frz, sIx, sLe, sLt, sGt, sGe, sAnd, toB, atI, ixN, setS, setIx, setFld, putN, orT, andV, andT, isiV, PV.kd, fldV, ownsA, chkI, chkN, chkK, parS, pass1, e1, e3, e4, e5, e6, chainT, c1, pm]
end
end L

set_option Elab.async false
set_option linter.all false
set_option maxRecDepth 100000
set_option maxHeartbeats 4000000
namespace L
open PySem L2 B
/-! ### putting trees together -/
namespace T
def app : T → T → T
  | nil, u => u
  | size n r, u => size n (app r u)
  | align k r, u => align k (app r u)
  | label s r, u => label s (app r u)
  | rep t b r, u => rep t b (app r u)
  | both x y r, u => both x y (app r u)
def st : T → Nat
  | nil => 0
  | size _ r => 1 + st r
  | align _ r => 1 + st r
  | label _ r => 1 + st r
  | rep t b r => t * st b + st r
  | both x y r => 3 + st x + st y + st r
theorem words_app : ∀ a u : T, (a.app u).words = a.words ++ u.words
  | nil, u => rfl
  | size n r, u => by simp [app, words, words_app r u]
  | align n r, u => by simp [app, words, words_app r u]
  | label n r, u => by simp [app, words, words_app r u]
  | rep t b r, u => by simp [app, words, words_app r u]
  | both x y r, u => by simp [app, words, words_app r u]
theorem len_app : ∀ a u : T, (a.app u).len = a.len + u.len
  | nil, u => by simp [app, len]
  | size n r, u => by simp only [app, len, len_app r u]; omega
  | align n r, u => by simp only [app, len, len_app r u]; omega
  | label n r, u => by simp only [app, len, len_app r u]; omega
  | rep t b r, u => by simp only [app, len, len_app r u]; omega
  | both x y r, u => by simp only [app, len, len_app r u]; omega
theorem st_app : ∀ a u : T, (a.app u).st = a.st + u.st
  | nil, u => by simp [app, st]
  | size n r, u => by simp only [app, st, st_app r u]; omega
  | align n r, u => by simp only [app, st, st_app r u]; omega
  | label n r, u => by simp only [app, st, st_app r u]; omega
  | rep t b r, u => by simp only [app, st, st_app r u]; omega
  | both x y r, u => by simp only [app, st, st_app r u]; omega
theorem dp_app : ∀ a u : T, (a.app u).dp = max a.dp u.dp
  | nil, u => by simp [app, dp]
  | size n r, u => by simp only [app, dp, dp_app r u]
  | align n r, u => by simp only [app, dp, dp_app r u]
  | label n r, u => by simp only [app, dp, dp_app r u]
  | rep t b r, u => by simp only [app, dp, dp_app r u]; omega
  | both x y r, u => by simp only [app, dp, dp_app r u]; omega
theorem nov_app : ∀ a u : T, (a.app u).nov = a.nov + u.nov
  | nil, u => by simp [app, nov]
  | size n r, u => by simp only [app, nov, nov_app r u]
  | align n r, u => by simp only [app, nov, nov_app r u]
  | label n r, u => by simp only [app, nov, nov_app r u]
  | rep t b r, u => by simp only [app, nov, nov_app r u]; omega
  | both x y r, u => by simp only [app, nov, nov_app r u]; omega
theorem labs_app : ∀ a u : T, (a.app u).labs = a.labs ++ u.labs
  | nil, u => rfl
  | size n r, u => by simp [app, labs, labs_app r u]
  | align n r, u => by simp [app, labs, labs_app r u]
  | label n r, u => by simp [app, labs, labs_app r u]
  | rep t b r, u => by simp [app, labs, labs_app r u]
  | both x y r, u => by simp [app, labs, labs_app r u]
theorem ok_app : ∀ (a u : T) (b : Bool), a.ok b → u.ok b → (a.app u).ok b
  | nil, u, b, _, h => h
  | size n r, u, b, h, h' => by simp only [app, ok] at h ⊢; exact ⟨h.1, ok_app r u b h.2 h'⟩
  | align n r, u, b, h, h' => by simp only [app, ok] at h ⊢; exact ⟨h.1, h.2.1, ok_app r u b h.2.2 h'⟩
  | label n r, u, b, h, h' => by simp only [app, ok] at h ⊢; exact ⟨h.1, ok_app r u b h.2 h'⟩
  | rep t x r, u, b, h, h' => by simp only [app, ok] at h ⊢; exact ⟨h.1, h.2.1, h.2.2.1, h.2.2.2.1, ok_app r u b h.2.2.2.2 h'⟩
  | both x y r, u, b, h, h' => by simp only [app, ok] at h ⊢; exact ⟨h.1, h.2.1, h.2.2.1, ok_app r u b h.2.2.2 h'⟩
theorem ok_false : ∀ (t : T), t.ok true → t.ok false
  | nil, _ => trivial
  | size n r, h => by simp only [ok] at h ⊢; exact ⟨h.1, ok_false r h.2⟩
  | align n r, h => by simp only [ok] at h ⊢; exact ⟨h.1, h.2.1, ok_false r h.2.2⟩
  | label n r, h => by simp only [ok] at h ⊢; exact ⟨h.1, ok_false r h.2⟩
  | rep t x r, h => by simp only [ok] at h ⊢; exact ⟨h.1, h.2.1, h.2.2.1, h.2.2.2.1, ok_false r h.2.2.2.2⟩
  | both x y r, h => by simp [ok] at h
end T
theorem ok_any {t : T} (h : t.ok true) : ∀ b, t.ok b
  | true => h
  | false => t.ok_false h
section
variable {ρ e : B.Env} {p : PV} {s o : Sl} {z : Xc} {j : Nat}
def cw (o : Option (Option Sl)) (k : Sl → Rz EV) : Rz EV := match o with
  | some (some s) => k s
  | _ => .no
@[simp] theorem cw_some {k : Sl → Rz EV} : cw (some (some s)) k = k s := rfl
@[simp] theorem callV_w0 {F : Fn} : callV [true] F [.vr j] ρ = cw ρ[j]? fun s => bk1 j (F [s]) ρ := by
  unfold cw
  split
  · rename_i e; exact callV_v0 e
  · rename_i e
    simp only [callV, bnd, pass1, pur, slsOf, slOf]
    rcases h : ρ[j]? with _ | (_ | s)
    · rfl
    · rfl
    · exact (e s h).elim
@[simp] theorem callV_w1 {F : Fn} : callV [true, false] F [.vr j, .fz p] ρ = cw ρ[j]? fun s => bk1 j (F [s, .fz p]) ρ := by
  unfold cw
  split
  · rename_i e; exact callV_v1 e
  · rename_i e
    simp only [callV, bnd, pass1, pur, slsOf, slOf, frz]
    rcases h : ρ[j]? with _ | (_ | s)
    · rfl
    · rfl
    · exact (e s h).elim
@[simp] theorem callV_w2 {F : Fn} {p' : PV} : callV [true, false, false] F [.vr j, .fz p, .fz p'] ρ = cw ρ[j]? fun s => bk1 j (F [s, .fz p, .fz p']) ρ := by
  unfold cw
  split
  · rename_i e; exact callV_v2 e
  · rename_i e
    simp only [callV, bnd, pass1, pur, slsOf, slOf, frz]
    rcases h : ρ[j]? with _ | (_ | s)
    · rfl
    · rfl
    · exact (e s h).elim
@[simp] theorem bk1_fz : bk1 j (.ok (.fz p) (some o :: e)) ρ = .ok (.fz p) (ρ.set j (some o)) := rfl
@[simp] theorem bk1_nw : bk1 j (.ok (.nw s) (some o :: e)) ρ = .ok (.nw s) (ρ.set j (some o)) := rfl
end

theorem ifS_t {t : M Bool} {a b : MS} {E : B.Env} (h : t E = .ok true E) : ifS t a b E = a E := by
  simp [ifS, doS, h]
theorem ifS_f {t : M Bool} {a b : MS} {E : B.Env} (h : t E = .ok false E) : ifS t a b E = b E := by
  simp [ifS, doS, h]
theorem sCatS_tx {a b : List Nat} (h : a.length + b.length ≤ sizeLine) : sCatS (tx a) (tx b) = some (.fz (tx (a ++ b))) := by
  show (if (SX.S a).length + (SX.S b).length ≤ sizeLine then some (EV.fz (.str (SX.S a ++ SX.S b))) else none) = _
  rw [if_pos (by rw [SX.S_len, SX.S_len]; exact h), SX.S_cat]
theorem sCatS_lst {a b : List PV} : sCatS (.lst a) (.lst b) = none := rfl
/-- a def that takes the silo first, and what it gives -/
def Gv (F : Fn) (s : Sl) (as : List Sl) (v : EV) (s' : Sl) : Prop := ∀ (ρ : B.Env) (j : Nat), bk1 j (F (s :: as)) ρ = .ok v (ρ.set j (some s'))
end L

set_option Elab.async false
set_option linter.all false
set_option maxRecDepth 100000
set_option maxHeartbeats 4000000
namespace L
open PySem L2 B
/-! ### the law's silo, and what is drawn of it -/
abbrev sl (x c n : Int) : Sl := .ow [I x, I c, I n]
/-- a silo, at most so many draws behind -/
def Si (m : Nat) (s : Sl) : Prop := ∃ x c n : Int, 0 ≤ x ∧ 0 ≤ c ∧ c ≤ 10000000000000000000000000000000000000000 ∧ 0 ≤ n ∧ n ≤ (m : Int) ∧ s = sl x c n
theorem Si.mono {m m' : Nat} {s : Sl} (h : Si m s) (l : m ≤ m') : Si m' s := by
  obtain ⟨x, c, n, h1, h2, h3, h4, h5, e⟩ := h
  exact ⟨x, c, n, h1, h2, h3, h4, by omega, e⟩
section
variable {ρ : B.Env}
theorem e_silo {ns : List Int} {k : Nat} (hk : k < 64) : ∃ s, Si 0 s ∧ ∀ ρ, bk0 (F_l_silo [.fz (.scr ns), .fz (I k)]) ρ = .ok (.nw s) ρ := by
  have g2 : mulC 70001 (k : Int) = true := mulC_bd (n := 20) (m := 10) (by unfold Bd; decide) (Bd.of (j := 64) (by omega) (by omega) (by unfold Bd; decide))
  have mx : ∀ z : Int, (if 0 < z then z else 0) = max 0 z := fun z => by split <;> omega
  by_cases h : (k : Int) < ns.length
  · have hn : k < ns.length := by omega
    have ea : atI ns (k : Int) = some ns[k] := by
      unfold atI ixN
      simp [hn]
    obtain ⟨c, hc⟩ : ∃ c, ns[k] = c := ⟨_, rfl⟩
    rw [hc] at ea
    have m1 := Int.emod_nonneg c (b := 1000000000000000000000000000000000000003) (by decide)
    have m2 := Int.emod_lt_of_pos c (b := 1000000000000000000000000000000000000003) (by decide)
    refine ⟨sl (max 0 (c - 1000000000000000000)) (c % 1000000000000000000000000000000000000003 + 70001 * k + 29) 0, ⟨_, _, _, by omega, by omega, by omega, by omega, by omega, rfl⟩, fun ρ => ?_⟩
    simp only [F_l_silo, g_l_silo]
    simp [fnB, plainA, Sl.own, doS, bnd, getV, pur, op2, deref, Sl.pv, lift, sPlus, sSub, sMul, sDiv, sMod, sPow, powC, modC, oor, sAdd, sI, sIc, fnR, outs, seq, nxt, unpS, tgT, tgs, tgN, ifS, tupV, lstV, frzs, frz, sIx, sLe, sLt, sGt, sGe, sAnd, toB, setS, setIx, setFld, putN, orT, andV, andT, isiV, PV.kd, fldV, ownsA, chkI, chkN, chkK, parS, pass1, ea, g2, bltV, derefs, sLen, sLenL, sLt, sMax, s2I, h]
    split <;> omega
  · refine ⟨sl 0 (70001 * k + 29) 0, ⟨_, _, _, by omega, by omega, by omega, by omega, by omega, rfl⟩, fun ρ => ?_⟩
    simp only [F_l_silo, g_l_silo]
    simp [fnB, plainA, Sl.own, doS, bnd, getV, pur, op2, deref, Sl.pv, lift, sPlus, sSub, sMul, sDiv, sMod, sPow, powC, modC, oor, sAdd, sI, sIc, fnR, outs, seq, nxt, unpS, tgT, tgs, tgN, ifS, tupV, lstV, frzs, frz, sIx, sLe, sLt, sGt, sGe, sAnd, toB, setS, setIx, setFld, putN, orT, andV, andT, isiV, PV.kd, fldV, ownsA, chkI, chkN, chkK, parS, pass1, g2, bltV, derefs, sLen, sLenL, sLt, sMax, s2I, h, mx]
theorem e_grab {x c n b : Int} (hx : 0 ≤ x) (hc : 0 ≤ c) (hc2 : c ≤ 10000000000000000000000000000000000000000) (hn : 0 ≤ n) (bn : n < 10 ^ 100) (hb : 0 < b) (hb2 : b ≤ 1000000000000000000000000000000) :
    ∃ v x' n', 0 ≤ v ∧ v < b ∧ 0 ≤ x' ∧ n ≤ n' ∧ n' ≤ n + 1 ∧ ∀ (Fr : Fn) (ρ : B.Env) (j : Nat), bk1 j (fnB 2 5 [0] (g_l_grab Fr) [sl x c n, .fz (I b)]) ρ = .ok (.fz (I v)) (ρ.set j (some (sl x' c n'))) := by
  have b30 : ¬ (1000000000000000000000000000000 < b) := by omega
  have hm : modC x b = true := modC_pos hb
  have hd : ∀ z, divC z b = true := fun z => divC_bd (n := 101) hb (Bd.of (by omega) hb2 (by unfold Bd; decide))
  by_cases h : 0 < x
  · refine ⟨x % b, x / b, n, Int.emod_nonneg _ (Int.ne_of_gt hb), Int.emod_lt_of_pos _ hb, Int.ediv_nonneg hx (Int.le_of_lt hb), Int.le_refl _, by omega, fun Fr ρ j => ?_⟩
    simp only [g_l_grab]
    simp [fnB, plainA, Sl.own, doS, bnd, getV, pur, op2, deref, Sl.pv, lift, sPlus, sSub, sMul, sDiv, sMod, sPow, powC, modC, oor, sAdd, sI, sIc, fnR, outs, seq, nxt, unpS, tgT, tgs, tgN, ifS, tupV, lstV, frzs, frz, sIx, sLe, sLt, sGt, sGe, sAnd, toB, atI, ixN, setS, setIx, setFld, putN, orT, andV, andT, isiV, PV.kd, fldV, ownsA, chkI, chkN, chkK, parS, pass1, h, hb, hd, b30]
  · have bn1 : Bd 400 (n + 1) := Bd.of (by omega) (show n + 1 ≤ 10 ^ 100 by omega) (by unfold Bd; decide)
    have g2 : mulC 32452843 (n + 1) = true := mulC_bd (n := 30) (by unfold Bd; decide) bn1
    have g3 : mulC 86028121 (n + 1) = true := mulC_bd (n := 30) (by unfold Bd; decide) bn1
    have w1 : Bd 431 (c + 32452843 * (n + 1)) := ((Bd.of hc hc2 (show Bd 430 _ by unfold Bd; decide)).add ((show Bd 30 32452843 by unfold Bd; decide).mul bn1))
    have p1 : powX (c + 32452843 * (n + 1)) 3 = true := powX_bd (k := 3) w1 (by decide)
    obtain ⟨f, hf⟩ : ∃ f, (c + 32452843 * (n + 1)) ^ 3 % 1000000000000000000000000000000000000000063 = f := ⟨_, rfl⟩
    have f1 : 0 ≤ f := by rw [← hf]; exact Int.emod_nonneg _ (by decide)
    have f2 : f < 1000000000000000000000000000000000000000063 := by rw [← hf]; exact Int.emod_lt_of_pos _ (by decide)
    have w2 : Bd 431 (f + 86028121 * (n + 1)) := ((Bd.of f1 (Int.le_of_lt f2) (show Bd 430 _ by unfold Bd; decide)).add ((show Bd 30 86028121 by unfold Bd; decide).mul bn1))
    have p2 : powX (f + 86028121 * (n + 1)) 3 = true := powX_bd (k := 3) w2 (by decide)
    obtain ⟨u, hu⟩ : ∃ u, (f + 86028121 * (n + 1)) ^ 3 % 100000000000000000000000000000000000000000057 = u := ⟨_, rfl⟩
    have g6 : ∀ z, divC z 655357 = true := fun z => by unfold divC; decide
    refine ⟨u / 655357 % b, x, n + 1, Int.emod_nonneg _ (Int.ne_of_gt hb), Int.emod_lt_of_pos _ hb, hx, by omega, Int.le_refl _, fun Fr ρ j => ?_⟩
    simp only [g_l_grab]
    simp [fnB, plainA, Sl.own, doS, bnd, getV, pur, op2, deref, Sl.pv, lift, sPlus, sSub, sMul, sDiv, sMod, sPow, powC, modC, oor, sAdd, sI, sIc, fnR, outs, seq, nxt, unpS, tgT, tgs, tgN, ifS, tupV, lstV, frzs, frz, sIx, sLe, sLt, sGt, sGe, sAnd, toB, atI, ixN, setS, setIx, setFld, putN, orT, andV, andT, isiV, PV.kd, fldV, ownsA, chkI, chkN, chkK, parS, pass1, sPowX, h, hb, b30, g2, g3, g6, p1, p2, hf, hu]
theorem grab {m : Nat} {b : Int} {s : Sl} (h : Si m s) (hm : m < 10 ^ 90) (hb : 0 < b) (hb2 : b ≤ 1000000000000000000000000000000) :
    ∃ v s', 0 ≤ v ∧ v < b ∧ Si (m + 1) s' ∧ Gv F_l_grab s [.fz (I b)] (.fz (I v)) s' := by
  obtain ⟨x, c, n, h1, h2, h3, h4, h5, rfl⟩ := h
  have e9 : (10 ^ 90 : Nat) = 1000000000000000000000000000000000000000000000000000000000000000000000000000000000000000000 := by decide
  have bn : n < 10 ^ 100 := by omega
  obtain ⟨v, x', n', a1, a2, a3, a4, a5, e⟩ := e_grab h1 h2 h3 h4 bn hb hb2
  exact ⟨v, _, a1, a2, ⟨x', c, n', a3, h2, h3, by omega, by omega, rfl⟩, fun ρ j => e _ ρ j⟩
theorem Si.ow {m : Nat} {s : Sl} (h : Si m s) : ∃ x c n, s = sl x c n := by
  obtain ⟨x, c, n, _, _, _, _, _, e⟩ := h
  exact ⟨x, c, n, e⟩
theorem dbl {s0 s1 : Option Sl} : ∀ (ps : List PV) (i : Nat) (o : Option Sl), i + ps.length ≤ 60 → ∃ o', forS (tgN 3) g_l_power_1 ps [s0, s1, some (.fz (I (2 ^ i))), o] = .nx [s0, s1, some (.fz (I (2 ^ (i + ps.length)))), o']
  | [], i, o, _ => ⟨o, rfl⟩
  | p :: ps, i, o, h => by
    simp only [List.length_cons] at h ⊢
    obtain ⟨o', e⟩ := dbl ps (i + 1) (some (.fz p)) (by omega)
    refine ⟨o', ?_⟩
    have g : mulC 2 ((2 : Int) ^ i) = true := mulC_bd (n := 2) (m := 61) (by unfold Bd; decide) (Pw.bd ⟨i, by omega, rfl⟩)
    have e1 : i + 1 + ps.length = i + (ps.length + 1) := by omega
    rw [Int.pow_succ, e1, Int.mul_comm] at e
    rw [forS_nx (ρ1 := [s0, s1, some (.fz (I (2 ^ i))), some (.fz p)]) (ρ2 := [s0, s1, some (.fz (I (2 * 2 ^ i))), some (.fz p)]) rfl (by simp [g_l_power_1, fnB, plainA, Sl.own, doS, bnd, getV, pur, op2, deref, Sl.pv, lift, sPlus, sSub, sMul, sDiv, sMod, sPow, powC, modC, oor, sAdd, sI, sIc, fnR, outs, seq, nxt, unpS, tgT, tgs, tgN, ifS, tupV, lstV, frzs, frz, sIx, sLe, sLt, sGt, sGe, sAnd, toB, atI, ixN, setS, setIx, setFld, putN, orT, andV, andT, isiV, PV.kd, fldV, ownsA, chkI, chkN, chkK, parS, pass1, g])]
    exact e
theorem e_lpower {m top : Nat} {s : Sl} (h : Si m s) (hm : m < 10 ^ 90) (h1 : 0 < top) (h2 : top ≤ 60) : ∃ (k : Nat) (s' : Sl), 1 ≤ k ∧ k ≤ top ∧ Si (m + 1) s' ∧ Gv F_l_power s [.fz (I top)] (.fz (I (2 ^ k))) s' := by
  obtain ⟨v, s1, a1, b1, hb, p1⟩ := grab h hm (b := (top : Int)) (by omega) (by omega)
  obtain ⟨j, rfl⟩ := Int.eq_ofNat_of_zero_le a1
  refine ⟨j + 1, s1, by omega, by omega, hb, fun ρ i => ?_⟩
  have sm : smallI (j : Int) = true := by unfold smallI; simp; omega
  have ln : (rngL 0 (j : Int)).length = j := by simp [rngL]
  obtain ⟨o, lp⟩ := dbl (s0 := some s1) (s1 := some (.fz (I top))) (rngL 0 (j : Int)) 1 none (by rw [ln]; omega)
  rw [ln, Int.pow_succ, Int.pow_zero, Int.one_mul, Nat.add_comm 1 j] at lp
  unfold Gv at p1
  obtain ⟨x, c, n, rfl⟩ := h.ow
  obtain ⟨x1, c1, n1, rfl⟩ := hb.ow
  simp only [F_l_power, g_l_power]
  simp [fnB, plainA, Sl.own, doS, bnd, getV, pur, op2, deref, Sl.pv, lift, sPlus, sSub, sMul, sDiv, sMod, sPow, powC, modC, oor, sAdd, sI, sIc, fnR, outs, seq, nxt, unpS, tgT, tgs, tgN, ifS, tupV, lstV, frzs, frz, sIx, sLe, sLt, sGt, sGe, sAnd, toB, atI, ixN, setS, setIx, setFld, putN, orT, andV, andT, isiV, PV.kd, fldV, ownsA, chkI, chkN, chkK, parS, pass1, p1, forR1_, sm]
  rw [lp]
  simp [fnR, outs]
end
end L

set_option Elab.async false
set_option linter.all false
set_option maxRecDepth 100000
set_option maxHeartbeats 4000000
namespace L
open PySem L2 B
/-! ### the law's nodes: their words, their count -/
namespace T
def enc : T → List PV
  | nil => []
  | size n r => .tup [.at (.str "size"), I n] :: enc r
  | align k r => .tup [.at (.str "align"), I (2 ^ k)] :: enc r
  | label s r => .tup [.at (.str "label"), tx s] :: enc r
  | rep t b r => .tup [.at (.str "rep"), I t, .lst (enc b)] :: enc r
  | both x y r => .tup [.at (.str "over"), .lst (enc x), .lst (enc y)] :: enc r
def cnt : T → Nat
  | nil => 0
  | size _ r => cnt r + 1
  | align _ r => cnt r + 1
  | label _ r => cnt r + 1
  | rep t b r => t * cnt b + cnt r
  | both x y r => cnt x + cnt y + cnt r
theorem enc_app : ∀ a u : T, (a.app u).enc = a.enc ++ u.enc
  | nil, u => rfl
  | size n r, u => by simp [app, enc, enc_app r u]
  | align n r, u => by simp [app, enc, enc_app r u]
  | label n r, u => by simp [app, enc, enc_app r u]
  | rep t b r, u => by simp [app, enc, enc_app r u]
  | both x y r, u => by simp [app, enc, enc_app r u]
theorem cnt_app : ∀ a u : T, (a.app u).cnt = a.cnt + u.cnt
  | nil, u => by simp [app, cnt]
  | size n r, u => by simp only [app, cnt, cnt_app r u]; omega
  | align k r, u => by simp only [app, cnt, cnt_app r u]; omega
  | label s r, u => by simp only [app, cnt, cnt_app r u]; omega
  | rep t b r, u => by simp only [app, cnt, cnt_app r u]; omega
  | both x y r, u => by simp only [app, cnt, cnt_app r u]; omega
theorem enc_len : ∀ t : T, t.enc.length ≤ t.len
  | nil => Nat.le_refl _
  | size n r => by have := enc_len r; simp only [enc, len, List.length_cons]; omega
  | align n r => by have := enc_len r; simp only [enc, len, List.length_cons]; omega
  | label n r => by have := enc_len r; simp only [enc, len, List.length_cons]; omega
  | rep t b r => by have := enc_len r; simp only [enc, len, List.length_cons]; omega
  | both x y r => by have := enc_len r; simp only [enc, len, List.length_cons]; omega
end T
section
variable {ρ : B.Env} {Fr : Fn} {o0 o1 : Option Sl} {acc : List (List Nat)}
theorem sOf {s : Str} : sStrX [.at (.str s)] = some (.fz (.at (.str s))) := rfl
theorem sOfN {n : Nat} (h : n < 2 ^ 1900) : sStrX [I (n : Int)] = some (.fz (tx (TL.numL n))) := by
  have e := sStr_num h
  simp only [sStrX, e]
theorem small (k : Nat) (h : k ≤ 5000) : k ≤ sizeLine := Nat.le_trans h (by decide)
theorem b2i (b : Bool) : sInt [.at (.bl b)] = some (.fz (I (if b then 1 else 0))) := rfl
/-- a single node's word -/
theorem wl_one {kd : Str} {q : PV} {w : List Nat} (h1 : kd ≠ "rep") (h2 : kd ≠ "over") (ha : acc.length ≤ 1000) (hw : w.length ≤ 100) (hs : sStrX [q] = some (.fz (tx w))) :
    g_l_words_1 Fr [o0, some (.ow (acc.map tx)), some (.fz (.tup [.at (.str kd), q]))] = .nx [o0, some (.ow ((acc ++ [(if kd = "align" then [64] else []) ++ w ++ (if kd = "label" then [58] else [])]).map tx)), some (.fz (.tup [.at (.str kd), q]))] := by
  have e1 := sEq_st (a := kd) (b := "rep")
  rw [decide_eq_false h1] at e1
  have e2 := sEq_st (a := kd) (b := "over")
  rw [decide_eq_false h2] at e2
  have e3 := sEq_st (a := kd) (b := "align")
  have e4 := sEq_st (a := kd) (b := "label")
  have z1 : acc.length < sizeLine := Nat.lt_of_le_of_lt ha (by decide)
  have c0 := sCatS_tx (a := []) (b := w) (small _ (by simp; omega))
  have c1 := sCatS_tx (a := [64]) (b := w) (small _ (by simp; omega))
  have c2 := sCatS_tx (a := w) (b := []) (small _ (by simp; omega))
  have c3 := sCatS_tx (a := w) (b := [58]) (small _ (by simp; omega))
  have c4 := sCatS_tx (a := 64 :: w) (b := []) (small _ (by simp; omega))
  have c5 := sCatS_tx (a := 64 :: w) (b := [58]) (small _ (by simp; omega))
  have i0 : ∀ p q : PV, sIx (.lst [p, q]) (I 0) = some (.fz p) := fun _ _ => rfl
  have i1 : ∀ p q : PV, sIx (.lst [p, q]) (I 1) = some (.fz q) := fun _ _ => rfl
  simp only [g_l_words_1, k_nil, k_at, k_col]
  by_cases a1 : kd = "align"
  · have a2 : kd ≠ "label" := by rw [a1]; decide
    rw [decide_eq_true a1] at e3
    rw [decide_eq_false a2] at e4
    rw [if_pos a1, if_neg a2]
    simp [fnB, plainA, Sl.own, doS, bnd, getV, pur, op2, deref, Sl.pv, lift, sPlus, sSub, sMul, sDiv, sMod, sPow, powC, modC, oor, sAdd, sI, sIc, fnR, outs, seq, nxt, unpS, tgT, tgs, tgN, ifS, tupV, lstV, frzs, frz, sLe, sLt, sGt, sGe, sAnd, toB, atI, ixN, setS, setIx, setFld, putN, orT, andV, andT, isiV, PV.kd, fldV, ownsA, chkI, chkN, chkK, parS, pass1, ix0, ix1, i0, i1, e1, e2, e3, e4, b2i, bltV, derefs, hs, c0, c1, c2, c3, c4, c5, hasO, apM, z1]
  · by_cases a2 : kd = "label"
    · rw [decide_eq_false a1] at e3
      rw [decide_eq_true a2] at e4
      rw [if_neg a1, if_pos a2]
      simp [fnB, plainA, Sl.own, doS, bnd, getV, pur, op2, deref, Sl.pv, lift, sPlus, sSub, sMul, sDiv, sMod, sPow, powC, modC, oor, sAdd, sI, sIc, fnR, outs, seq, nxt, unpS, tgT, tgs, tgN, ifS, tupV, lstV, frzs, frz, sLe, sLt, sGt, sGe, sAnd, toB, atI, ixN, setS, setIx, setFld, putN, orT, andV, andT, isiV, PV.kd, fldV, ownsA, chkI, chkN, chkK, parS, pass1, ix0, ix1, i0, i1, e1, e2, e3, e4, b2i, bltV, derefs, hs, c0, c1, c2, c3, c4, c5, hasO, apM, z1]
    · rw [decide_eq_false a1] at e3
      rw [decide_eq_false a2] at e4
      rw [if_neg a1, if_neg a2]
      simp [fnB, plainA, Sl.own, doS, bnd, getV, pur, op2, deref, Sl.pv, lift, sPlus, sSub, sMul, sDiv, sMod, sPow, powC, modC, oor, sAdd, sI, sIc, fnR, outs, seq, nxt, unpS, tgT, tgs, tgN, ifS, tupV, lstV, frzs, frz, sLe, sLt, sGt, sGe, sAnd, toB, atI, ixN, setS, setIx, setFld, putN, orT, andV, andT, isiV, PV.kd, fldV, ownsA, chkI, chkN, chkK, parS, pass1, ix0, ix1, i0, i1, e1, e2, e3, e4, b2i, bltV, derefs, hs, c0, c1, c2, c3, c4, c5, hasO, apM, z1]
theorem wl_rep {ns : List PV} {ws : List (List Nat)} {t : Nat} (ha : acc.length ≤ 1000) (hw : ws.length ≤ 1000) (ht : t ≤ 10 ^ 30) (e : ∀ ρ, bk0 (Fr [.fz (.lst ns)]) ρ = .ok (.nw (.ow (ws.map tx))) ρ) :
    g_l_words_1 Fr [o0, some (.ow (acc.map tx)), some (.fz (.tup [.at (.str "rep"), I t, .lst ns]))] = .nx [o0, some (.ow ((acc ++ ([40] :: (ws ++ [41 :: TL.numL t]))).map tx)), some (.fz (.tup [.at (.str "rep"), I t, .lst ns]))] := by
  have e1 := sEq_st (a := "rep") (b := "rep")
  have ln : (TL.numL t).length ≤ 100 := by
    have := numL_len 30 t (Nat.lt_of_le_of_lt ht (by decide))
    omega
  have c1 := sCatS_tx (a := [41]) (b := TL.numL t) (small _ (by simp; omega))
  have st := sOfN (n := t) (Nat.lt_of_le_of_lt ht (by decide +kernel))
  have b1 := small (acc.length + 1) (by omega)
  have b2 := small (acc.length + 1 + ws.length) (by omega)
  have b3 := small (acc.length + 1 + ws.length + 1) (by omega)
  have b4 := small (acc.length + (ws.length + 1)) (by omega)
  have b5 := small (acc.length + (ws.length + 1 + 1)) (by omega)
  have b6 := small (acc.length + (ws.length + 1) + 1) (by omega)
  simp only [g_l_words_1, k_op, k_cl]
  simp [fnB, plainA, Sl.own, doS, bnd, getV, pur, op2, deref, Sl.pv, lift, sPlus, sSub, sMul, sDiv, sMod, sPow, powC, modC, oor, sAdd, sI, sIc, fnR, outs, seq, nxt, unpS, tgT, tgs, tgN, ifS, tupV, lstV, frzs, frz, sLe, sLt, sGt, sGe, sAnd, toB, atI, ixN, setS, setIx, setFld, putN, orT, andV, andT, isiV, PV.kd, fldV, ownsA, chkI, chkN, chkK, parS, pass1, ix0, ix1, ix2, e1, bltV, derefs, st, e, c1, sCatS_lst, sCatL, b1, b2, b3, b4, b5, b6]
theorem wl_both {ns ms : List PV} {ws vs : List (List Nat)} (ha : acc.length ≤ 1000) (hw : ws.length ≤ 1000) (hv : vs.length ≤ 1000) (e : ∀ ρ, bk0 (Fr [.fz (.lst ns)]) ρ = .ok (.nw (.ow (ws.map tx))) ρ) (e' : ∀ ρ, bk0 (Fr [.fz (.lst ms)]) ρ = .ok (.nw (.ow (vs.map tx))) ρ) :
    g_l_words_1 Fr [o0, some (.ow (acc.map tx)), some (.fz (.tup [.at (.str "over"), .lst ns, .lst ms]))] = .nx [o0, some (.ow ((acc ++ ([123] :: (ws ++ [124] :: (vs ++ [[125]])))).map tx)), some (.fz (.tup [.at (.str "over"), .lst ns, .lst ms]))] := by
  have e1 := sEq_st (a := "over") (b := "rep")
  rw [decide_eq_false (by decide)] at e1
  have e2 := sEq_st (a := "over") (b := "over")
  have b1 := small (acc.length + 1) (by omega)
  have b2 := small (acc.length + 1 + ws.length) (by omega)
  have b3 := small (acc.length + 1 + ws.length + 1) (by omega)
  have b4 := small (acc.length + 1 + ws.length + 1 + vs.length) (by omega)
  have b5 := small (acc.length + 1 + ws.length + 1 + vs.length + 1) (by omega)
  have b6 := small (acc.length + (ws.length + 1)) (by omega)
  have b7 := small (acc.length + (ws.length + 1 + 1)) (by omega)
  have b8 := small (acc.length + (ws.length + (vs.length + 1) + 1)) (by omega)
  have b9 := small (acc.length + (ws.length + (vs.length + 1 + 1) + 1)) (by omega)
  have b10 := small (acc.length + (ws.length + 1) + 1) (by omega)
  have b11 := small (acc.length + (ws.length + 1 + 1) + vs.length) (by omega)
  have b12 := small (acc.length + (ws.length + (vs.length + 1) + 1) + 1) (by omega)
  simp only [g_l_words_1, k_ob, k_bar, k_cb]
  simp [fnB, plainA, Sl.own, doS, bnd, getV, pur, op2, deref, Sl.pv, lift, sPlus, sSub, sMul, sDiv, sMod, sPow, powC, modC, oor, sAdd, sI, sIc, fnR, outs, seq, nxt, unpS, tgT, tgs, tgN, ifS, tupV, lstV, frzs, frz, sLe, sLt, sGt, sGe, sAnd, toB, atI, ixN, setS, setIx, setFld, putN, orT, andV, andT, isiV, PV.kd, fldV, ownsA, chkI, chkN, chkK, parS, pass1, ix0, ix1, ix2, e1, e2, e, e', sCatS_lst, sCatL, b1, b2, b3, b4, b5, b6, b7, b8, b9, b10, b11, b12]
def WF (Fr : Fn) (d : Nat) : Prop := ∀ (t : T) (b : Bool) (ρ : B.Env), t.ok b → t.dp < d → t.len ≤ 900 → bk0 (Fr [.fz (.lst t.enc)]) ρ = .ok (.nw (.ow (t.words.map tx))) ρ
theorem num30 {n : Nat} (h : n ≤ 10 ^ 30) : (TL.numL n).length ≤ 100 := by
  have := numL_len 30 n (Nat.lt_of_le_of_lt h (by decide))
  omega
theorem wl_loop {d : Nat} (hF : WF Fr d) (o0 : Option Sl) : ∀ (t : T) (b : Bool) (acc : List (List Nat)) (o2 : Option Sl), t.ok b → t.dp ≤ d → acc.length + t.len ≤ 900 →
    ∃ p2, forS (tgN 2) (g_l_words_1 Fr) t.enc [o0, some (.ow (acc.map tx)), o2] = .nx [o0, some (.ow ((acc ++ t.words).map tx)), p2]
  | .nil, b, acc, o2, _, _, _ => ⟨o2, by simp [T.enc, T.words, forS, nxt]⟩
  | .size n r, b, acc, o2, hk, hd, hl => by
    simp only [T.ok] at hk
    simp only [T.dp] at hd
    simp only [T.len] at hl
    have e := wl_one (Fr := Fr) (o0 := o0) (acc := acc) (kd := "size") (q := I n) (w := TL.numL n) (by decide) (by decide) (by omega) (num30 hk.1) (sOfN (Nat.lt_of_le_of_lt hk.1 (by decide +kernel)))
    rw [if_neg (by decide), if_neg (by decide), List.nil_append, List.append_nil] at e
    obtain ⟨p2, e2⟩ := wl_loop hF o0 r b (acc ++ [TL.numL n]) (some (.fz (.tup [.at (.str "size"), I n]))) hk.2 hd (by simp; omega)
    refine ⟨p2, ?_⟩
    rw [T.enc, forS_nx rfl e, e2]
    simp [T.words]
  | .align k r, b, acc, o2, hk, hd, hl => by
    simp only [T.ok] at hk
    simp only [T.dp] at hd
    simp only [T.len] at hl
    have l60 : 2 ^ k ≤ 10 ^ 30 := Nat.le_trans (Nat.pow_le_pow_right (by decide) hk.2.1) (by decide)
    have sn := sOfN (n := 2 ^ k) (Nat.lt_of_le_of_lt l60 (by decide +kernel))
    rw [Int.natCast_pow] at sn
    have e := wl_one (Fr := Fr) (o0 := o0) (acc := acc) (kd := "align") (q := I (2 ^ k)) (w := TL.numL (2 ^ k)) (by decide) (by decide) (by omega) (num30 l60) sn
    rw [if_pos rfl, if_neg (by decide), List.append_nil] at e
    obtain ⟨p2, e2⟩ := wl_loop hF o0 r b (acc ++ [64 :: TL.numL (2 ^ k)]) (some (.fz (.tup [.at (.str "align"), I (2 ^ k)]))) hk.2.2 hd (by simp; omega)
    refine ⟨p2, ?_⟩
    rw [T.enc, forS_nx rfl e]
    refine Eq.trans e2 ?_
    simp [T.words]
  | .label s r, b, acc, o2, hk, hd, hl => by
    simp only [T.ok] at hk
    simp only [T.dp] at hd
    simp only [T.len] at hl
    have e := wl_one (Fr := Fr) (o0 := o0) (acc := acc) (kd := "label") (q := tx s) (w := s) (by decide) (by decide) (by omega) (by have := hk.1.2.1; omega) sOf
    rw [if_neg (by decide), if_pos rfl, List.nil_append] at e
    obtain ⟨p2, e2⟩ := wl_loop hF o0 r b (acc ++ [s ++ [58]]) (some (.fz (.tup [.at (.str "label"), tx s]))) hk.2 hd (by simp; omega)
    refine ⟨p2, ?_⟩
    rw [T.enc, forS_nx rfl e, e2]
    simp [T.words]
  | .rep t x r, b, acc, o2, hk, hd, hl => by
    simp only [T.ok] at hk
    simp only [T.dp] at hd
    simp only [T.len] at hl
    have wx := T.words_len x
    have e := wl_rep (Fr := Fr) (o0 := o0) (acc := acc) (ns := x.enc) (ws := x.words) (by omega) (by omega) hk.2.1 (fun ρ => hF x true ρ hk.2.2.2.1 (by omega) (by omega))
    obtain ⟨p2, e2⟩ := wl_loop hF o0 r b (acc ++ ([40] :: (x.words ++ [41 :: TL.numL t]))) (some (.fz (.tup [.at (.str "rep"), I t, .lst x.enc]))) hk.2.2.2.2 (by omega) (by simp; omega)
    refine ⟨p2, ?_⟩
    rw [T.enc, forS_nx rfl e, e2]
    simp [T.words]
  | .both x y r, b, acc, o2, hk, hd, hl => by
    simp only [T.ok] at hk
    simp only [T.dp] at hd
    simp only [T.len] at hl
    have wx := T.words_len x
    have wy := T.words_len y
    have e := wl_both (Fr := Fr) (o0 := o0) (acc := acc) (ns := x.enc) (ms := y.enc) (ws := x.words) (vs := y.words) (by omega) (by omega) (by omega) (fun ρ => hF x false ρ hk.2.1 (by omega) (by omega)) (fun ρ => hF y false ρ hk.2.2.1 (by omega) (by omega))
    obtain ⟨p2, e2⟩ := wl_loop hF o0 r b (acc ++ ([123] :: (x.words ++ [124] :: (y.words ++ [[125]])))) (some (.fz (.tup [.at (.str "over"), .lst x.enc, .lst y.enc]))) hk.2.2.2 (by omega) (by simp; omega)
    refine ⟨p2, ?_⟩
    rw [T.enc, forS_nx rfl e, e2]
    simp [T.words]
theorem wf_step {d : Nat} (hF : WF Fr d) : WF (fnB 1 3 [] (g_l_words Fr)) (d + 1) := by
  intro t b ρ hk hd hl
  obtain ⟨p2, e⟩ := wl_loop hF (some (.fz (.lst t.enc))) t b [] none hk (by omega) (by simpa using hl)
  have z := small t.enc.length (by have := T.enc_len t; omega)
  simp only [List.map_nil, List.nil_append] at e
  generalize t.words.map tx = ws at *
  generalize t.enc = ps at *
  simp only [g_l_words]
  simp [fnB, plainA, Sl.own, doS, bnd, getV, pur, op2, deref, Sl.pv, lift, sPlus, sSub, sMul, sDiv, sMod, sPow, powC, modC, oor, sAdd, sI, sIc, fnR, outs, seq, nxt, unpS, tgT, tgs, tgN, ifS, tupV, lstV, frzs, frz, sIx, sLe, sLt, sGt, sGe, sAnd, toB, atI, ixN, setS, setIx, setFld, putN, orT, andV, andT, isiV, PV.kd, fldV, ownsA, chkI, chkN, chkK, parS, pass1, forM_, itemsL, z, e]
theorem wf_all : ∀ n : Nat, WF (recB 1 3 [] g_l_words n) n
  | 0 => fun t b ρ hk ht => absurd ht (by omega)
  | n + 1 => wf_step (wf_all n)
theorem e_lwords {t : T} {b : Bool} (hk : t.ok b) (hd : t.dp ≤ 12) (hl : t.len ≤ 900) : bk0 (F_l_words [.fz (.lst t.enc)]) ρ = .ok (.nw (.ow (t.words.map tx))) ρ := wf_all 16 t b ρ hk (by omega) hl

/-! ### how many words are performed -/
def CF (Fr : Fn) (d : Nat) : Prop := ∀ (t : T) (b : Bool) (ρ : B.Env), t.ok b → t.dp < d → t.len ≤ 900 → Bd 1000 t.cnt → bk0 (Fr [.fz (.lst t.enc)]) ρ = .ok (.fz (I t.cnt)) ρ
theorem cl_one {kd : Str} {x : Int} {qs : List PV} (h1 : kd ≠ "rep") (h2 : kd ≠ "over") : g_l_count_1 Fr [o0, some (.fz (I x)), some (.fz (.tup (.at (.str kd) :: qs)))] = .nx [o0, some (.fz (I (x + 1))), some (.fz (.tup (.at (.str kd) :: qs)))] := by
  have e1 := sEq_st (a := kd) (b := "rep")
  rw [decide_eq_false h1] at e1
  have e2 := sEq_st (a := kd) (b := "over")
  rw [decide_eq_false h2] at e2
  simp only [g_l_count_1]
  simp [fnB, plainA, Sl.own, doS, bnd, getV, pur, op2, deref, Sl.pv, lift, sPlus, sSub, sMul, sDiv, sMod, sPow, powC, modC, oor, sAdd, sI, sIc, fnR, outs, seq, nxt, unpS, tgT, tgs, tgN, ifS, tupV, lstV, frzs, frz, sLe, sLt, sGt, sGe, sAnd, toB, atI, ixN, setS, setIx, setFld, putN, orT, andV, andT, isiV, PV.kd, fldV, ownsA, chkI, chkN, chkK, parS, pass1, ix0, e1, e2]
theorem cl_rep {x y : Int} {ns : List PV} {t : Nat} (ht : t ≤ 10 ^ 30) (hy : Bd 1000 y) (e : ∀ ρ, bk0 (Fr [.fz (.lst ns)]) ρ = .ok (.fz (I y)) ρ) : g_l_count_1 Fr [o0, some (.fz (I x)), some (.fz (.tup [.at (.str "rep"), I t, .lst ns]))] = .nx [o0, some (.fz (I (x + t * y))), some (.fz (.tup [.at (.str "rep"), I t, .lst ns]))] := by
  have e1 := sEq_st (a := "rep") (b := "rep")
  have g : mulC t y = true := mulC_bd (Bd.of (n := 100) (by omega) (e30 ht) (by unfold Bd; decide)) hy
  simp only [g_l_count_1]
  simp [fnB, plainA, Sl.own, doS, bnd, getV, pur, op2, deref, Sl.pv, lift, sPlus, sSub, sMul, sDiv, sMod, sPow, powC, modC, oor, sAdd, sI, sIc, fnR, outs, seq, nxt, unpS, tgT, tgs, tgN, ifS, tupV, lstV, frzs, frz, sLe, sLt, sGt, sGe, sAnd, toB, atI, ixN, setS, setIx, setFld, putN, orT, andV, andT, isiV, PV.kd, fldV, ownsA, chkI, chkN, chkK, parS, pass1, ix0, ix1, ix2, e1, e, g]
theorem cl_both {x y z : Int} {ns ms : List PV} (e : ∀ ρ, bk0 (Fr [.fz (.lst ns)]) ρ = .ok (.fz (I y)) ρ) (e' : ∀ ρ, bk0 (Fr [.fz (.lst ms)]) ρ = .ok (.fz (I z)) ρ) : g_l_count_1 Fr [o0, some (.fz (I x)), some (.fz (.tup [.at (.str "over"), .lst ns, .lst ms]))] = .nx [o0, some (.fz (I (x + y + z))), some (.fz (.tup [.at (.str "over"), .lst ns, .lst ms]))] := by
  have e1 := sEq_st (a := "over") (b := "rep")
  rw [decide_eq_false (by decide)] at e1
  have e2 := sEq_st (a := "over") (b := "over")
  simp only [g_l_count_1]
  simp [fnB, plainA, Sl.own, doS, bnd, getV, pur, op2, deref, Sl.pv, lift, sPlus, sSub, sMul, sDiv, sMod, sPow, powC, modC, oor, sAdd, sI, sIc, fnR, outs, seq, nxt, unpS, tgT, tgs, tgN, ifS, tupV, lstV, frzs, frz, sLe, sLt, sGt, sGe, sAnd, toB, atI, ixN, setS, setIx, setFld, putN, orT, andV, andT, isiV, PV.kd, fldV, ownsA, chkI, chkN, chkK, parS, pass1, ix0, ix1, ix2, e1, e2, e, e']
theorem cb_le {n m : Nat} (h : n ≤ m) (b : Bd 1000 (m : Int)) : Bd 1000 (n : Int) := Bd.of (by omega) (by omega) b
theorem cl_loop {d : Nat} (hF : CF Fr d) (o0 : Option Sl) : ∀ (t : T) (b : Bool) (x : Nat) (o2 : Option Sl), t.ok b → t.dp ≤ d → t.len ≤ 900 → Bd 1000 t.cnt →
    ∃ p2, forS (tgN 2) (g_l_count_1 Fr) t.enc [o0, some (.fz (I x)), o2] = .nx [o0, some (.fz (I ((x + t.cnt : Nat) : Int))), p2]
  | .nil, b, x, o2, _, _, _, _ => ⟨o2, by simp [T.enc, T.cnt, forS, nxt]⟩
  | .size n r, b, x, o2, hk, hd, hl, hb => by
    simp only [T.ok] at hk; simp only [T.dp] at hd; simp only [T.len] at hl; simp only [T.cnt] at hb
    obtain ⟨p2, e2⟩ := cl_loop hF o0 r b (x + 1) (some (.fz (.tup [.at (.str "size"), I n]))) hk.2 hd (by omega) (cb_le (by omega) hb)
    refine ⟨p2, ?_⟩
    rw [T.enc, forS_nx rfl (cl_one (by decide) (by decide))]
    refine Eq.trans e2 ?_
    rw [T.cnt, show x + 1 + r.cnt = x + (r.cnt + 1) by omega]
  | .align n r, b, x, o2, hk, hd, hl, hb => by
    simp only [T.ok] at hk; simp only [T.dp] at hd; simp only [T.len] at hl; simp only [T.cnt] at hb
    obtain ⟨p2, e2⟩ := cl_loop hF o0 r b (x + 1) (some (.fz (.tup [.at (.str "align"), I (2 ^ n)]))) hk.2.2 hd (by omega) (cb_le (by omega) hb)
    refine ⟨p2, ?_⟩
    rw [T.enc, forS_nx rfl (cl_one (by decide) (by decide))]
    refine Eq.trans e2 ?_
    rw [T.cnt, show x + 1 + r.cnt = x + (r.cnt + 1) by omega]
  | .label s r, b, x, o2, hk, hd, hl, hb => by
    simp only [T.ok] at hk; simp only [T.dp] at hd; simp only [T.len] at hl; simp only [T.cnt] at hb
    obtain ⟨p2, e2⟩ := cl_loop hF o0 r b (x + 1) (some (.fz (.tup [.at (.str "label"), tx s]))) hk.2 hd (by omega) (cb_le (by omega) hb)
    refine ⟨p2, ?_⟩
    rw [T.enc, forS_nx rfl (cl_one (by decide) (by decide))]
    refine Eq.trans e2 ?_
    rw [T.cnt, show x + 1 + r.cnt = x + (r.cnt + 1) by omega]
  | .rep t y r, b, x, o2, hk, hd, hl, hb => by
    simp only [T.ok] at hk; simp only [T.dp] at hd; simp only [T.len] at hl; simp only [T.cnt] at hb
    have b1 : Bd 1000 (y.cnt : Int) := cb_le (Nat.le_trans (Nat.le_mul_of_pos_left _ (by omega)) (Nat.le_add_right _ _)) hb
    have e := cl_rep (Fr := Fr) (o0 := o0) (x := (x : Int)) (ns := y.enc) hk.2.1 b1 (fun ρ => hF y true ρ hk.2.2.2.1 (by omega) (by omega) b1)
    obtain ⟨p2, e2⟩ := cl_loop hF o0 r b (x + t * y.cnt) (some (.fz (.tup [.at (.str "rep"), I t, .lst y.enc]))) hk.2.2.2.2 (by omega) (by omega) (cb_le (by omega) hb)
    refine ⟨p2, ?_⟩
    rw [T.enc, forS_nx rfl e]
    have ec : (x : Int) + t * (y.cnt : Int) = ((x + t * y.cnt : Nat) : Int) := by simp
    rw [ec]
    refine Eq.trans e2 ?_
    rw [T.cnt, Nat.add_assoc]
  | .both p q r, b, x, o2, hk, hd, hl, hb => by
    simp only [T.ok] at hk; simp only [T.dp] at hd; simp only [T.len] at hl; simp only [T.cnt] at hb
    have e := cl_both (Fr := Fr) (o0 := o0) (x := (x : Int)) (ns := p.enc) (ms := q.enc) (fun ρ => hF p false ρ hk.2.1 (by omega) (by omega) (cb_le (by omega) hb)) (fun ρ => hF q false ρ hk.2.2.1 (by omega) (by omega) (cb_le (by omega) hb))
    obtain ⟨p2, e2⟩ := cl_loop hF o0 r b (x + p.cnt + q.cnt) (some (.fz (.tup [.at (.str "over"), .lst p.enc, .lst q.enc]))) hk.2.2.2 (by omega) (by omega) (cb_le (by omega) hb)
    refine ⟨p2, ?_⟩
    rw [T.enc, forS_nx rfl e]
    have ec : (x : Int) + (p.cnt : Int) + (q.cnt : Int) = ((x + p.cnt + q.cnt : Nat) : Int) := by simp
    rw [ec]
    refine Eq.trans e2 ?_
    rw [T.cnt, show x + p.cnt + q.cnt + r.cnt = x + (p.cnt + q.cnt + r.cnt) by omega]
theorem cf_step {d : Nat} (hF : CF Fr d) : CF (fnB 1 3 [] (g_l_count Fr)) (d + 1) := by
  intro t b ρ hk hd hl hb
  obtain ⟨p2, e⟩ := cl_loop hF (some (.fz (.lst t.enc))) t b 0 none hk (by omega) hl hb
  have z := small t.enc.length (by have := T.enc_len t; omega)
  have e0 : ((0 : Nat) : Int) = 0 := rfl
  rw [Nat.zero_add, e0] at e
  generalize t.cnt = c at *
  generalize t.enc = ps at *
  simp only [g_l_count]
  simp [fnB, plainA, Sl.own, doS, bnd, getV, pur, op2, deref, Sl.pv, lift, sPlus, sSub, sMul, sDiv, sMod, sPow, powC, modC, oor, sAdd, sI, sIc, fnR, outs, seq, nxt, unpS, tgT, tgs, tgN, ifS, tupV, lstV, frzs, frz, sIx, sLe, sLt, sGt, sGe, sAnd, toB, atI, ixN, setS, setIx, setFld, putN, orT, andV, andT, isiV, PV.kd, fldV, ownsA, chkI, chkN, chkK, parS, pass1, forM_, itemsL, z, e]
theorem cf_all : ∀ n : Nat, CF (recB 1 3 [] g_l_count n) n
  | 0 => fun t b ρ hk ht => absurd ht (by omega)
  | n + 1 => cf_step (cf_all n)
theorem e_lcount {t : T} {b : Bool} (hk : t.ok b) (hd : t.dp ≤ 12) (hl : t.len ≤ 900) (hb : Bd 1000 t.cnt) : bk0 (F_l_count [.fz (.lst t.enc)]) ρ = .ok (.fz (I t.cnt)) ρ := cf_all 16 t b ρ hk (by omega) hl hb
end
end L

set_option Elab.async false
set_option linter.all false
set_option maxRecDepth 100000
set_option maxHeartbeats 4000000
namespace L
open PySem L2 B
/-! ### drawn nodes -/
namespace T
/-- the labels stand in the names, each as often at most -/
def Few (t : T) (nm nm' : List (List Nat)) : Prop := ∀ w, t.labs.count w + nm'.count w ≤ nm.count w
theorem Few.nil (nm : List (List Nat)) : Few .nil nm nm := fun w => by simp [labs]
theorem Few.app {t o : T} {nm nm1 nm2 : List (List Nat)} (h : t.Few nm nm1) (h' : o.Few nm1 nm2) : (t.app o).Few nm nm2 := fun w => by
  have := h w
  have := h' w
  rw [labs_app, List.count_append]
  omega
theorem Few.less {t : T} {nm nm1 nm2 : List (List Nat)} (h : t.Few nm nm1) (h' : ∀ w, nm2.count w ≤ nm1.count w) : t.Few nm nm2 := fun w => by
  have := h w
  have := h' w
  omega
theorem Few.rest {t : T} {nm nm1 : List (List Nat)} (h : t.Few nm nm1) : ∀ w, nm1.count w ≤ nm.count w := fun w => by
  have := h w
  omega
end T
theorem count_erase : ∀ (nm : List (List Nat)) (i : Nat) (w : List Nat) (h : i < nm.length), (nm.eraseIdx i).count w + (if nm[i] == w then 1 else 0) = nm.count w
  | [], i, w, h => by simp at h
  | a :: nm, 0, w, h => by simp [List.count_cons]
  | a :: nm, i + 1, w, h => by
    have := count_erase nm i w (by simpa using h)
    simp only [List.eraseIdx_cons_succ, List.count_cons, List.getElem_cons_succ]
    omega
theorem eraseIdx_map {α β : Type} (f : α → β) : ∀ (l : List α) (i : Nat), (l.map f).eraseIdx i = (l.eraseIdx i).map f
  | [], i => by simp
  | a :: l, 0 => by simp
  | a :: l, i + 1 => by simp [eraseIdx_map f l i]
/-- the exponents of the alignments are at most so great -/
def T.low (K : Nat) : T → Prop
  | .nil => True
  | .size _ r => r.low K
  | .align k r => k ≤ K ∧ r.low K
  | .label _ r => r.low K
  | .rep _ b r => b.low K ∧ r.low K
  | .both x y r => x.low K ∧ y.low K ∧ r.low K
theorem T.low_app {K : Nat} : ∀ a u : T, a.low K → u.low K → (a.app u).low K
  | nil, u, _, h => h
  | size n r, u, h, h' => low_app r u h h'
  | align n r, u, h, h' => ⟨h.1, low_app r u h.2 h'⟩
  | label n r, u, h, h' => low_app r u h h'
  | rep t b r, u, h, h' => ⟨h.1, low_app r u h.2 h'⟩
  | both x y r, u, h, h' => ⟨h.1, h.2.1, low_app r u h.2.2 h'⟩
/-- what drawn nodes are -/
structure Nd (K deep : Nat) (nm nm' : List (List Nat)) (t : T) : Prop where
  ok : t.ok true
  dp : t.dp ≤ deep
  len : t.len ≤ 2 * t.cnt
  few : t.Few nm nm'
  low : t.low K
theorem Nd.nil {K deep : Nat} {nm : List (List Nat)} : Nd K deep nm nm .nil := ⟨trivial, Nat.zero_le _, Nat.zero_le _, T.Few.nil nm, trivial⟩
theorem Nd.app {K deep : Nat} {nm nm1 nm2 : List (List Nat)} {t o : T} (h : Nd K deep nm nm1 t) (h' : Nd K deep nm1 nm2 o) : Nd K deep nm nm2 (t.app o) := by
  refine ⟨T.ok_app t o true h.ok h'.ok, ?_, ?_, h.few.app h'.few, T.low_app t o h.low h'.low⟩
  · have := h.dp; have := h'.dp; rw [T.dp_app]; omega
  · have := h.len; have := h'.len; rw [T.len_app, T.cnt_app]; omega
theorem Nd.drop {K deep : Nat} {nm nm1 nm2 : List (List Nat)} {t o : T} (h : Nd K deep nm nm1 t) (h' : Nd K deep nm1 nm2 o) : Nd K deep nm nm2 t :=
  ⟨h.ok, h.dp, h.len, h.few.less h'.few.rest, h.low⟩
theorem Nd.rep {K deep n : Nat} {nm nm' : List (List Nat)} {t : T} (h : Nd K deep nm nm' t) (ht : t ≠ .nil) (h2 : 2 ≤ n) (h3 : n ≤ 10 ^ 30) : Nd K (deep + 1) nm nm' (.rep n t .nil) := by
  have hl := h.len
  have l1 : 1 ≤ t.len := by
    cases t with
    | nil => exact (ht rfl).elim
    | _ => simp only [T.len]; omega
  have m := Nat.mul_le_mul_right t.cnt h2
  refine ⟨⟨h2, h3, ht, h.ok, trivial⟩, ?_, ?_, fun w => ?_, h.low, trivial⟩
  · have := h.dp; simp only [T.dp]; omega
  · simp only [T.len, T.cnt]; omega
  · have := h.few w
    simpa [T.labs] using this
section
variable {F : Fn} {s s' u u' w : Sl} {p p1 p2 p3 p4 p5 : PV} {q1 q2 q3 q4 q5 : Option Sl} {ρ : B.Env}
theorem callV_5s (h0 : ρ[0]? = some (some s)) (h3 : ρ[3]? = some (some u)) (e : F [s, .fz p1, .fz p2, u, .fz p4] = .ok (.fz p) [some s', q1, q2, some u', q4]) :
    callV [true, false, false, true, false] F [.vr 0, .fz p1, .fz p2, .vr 3, .fz p4] ρ = .ok (.fz p) ((ρ.set 0 (some s')).set 3 (some u')) := by
  simp [callV, bnd, pass1, pur, frz, slsOf, slOf, h0, h3, vrIx, e, back]
  show ([3] : List Nat).Nodup
  decide
end
def qn (d : Nat) : Nat := 100 ^ (d + 1)
def qk : Nat → Nat
  | 0 => 5
  | d + 1 => 5 + qn d
theorem qn_pos (d : Nat) : 100 ≤ qn d := by
  unfold qn
  have : 1 ≤ 100 ^ d := Nat.pow_pos (by decide)
  rw [Nat.pow_succ]
  omega
theorem qk_le (d : Nat) : 1 + 12 * qk d ≤ qn d := by
  cases d with
  | zero => decide
  | succ d =>
    have := qn_pos d
    have e : qn (d + 1) = 100 * qn d := by unfold qn; rw [Nat.pow_succ 100 (d + 1)]; omega
    rw [e]
    show 1 + 12 * (5 + qn d) ≤ 100 * qn d
    omega
theorem qk_pos (d : Nat) : 5 ≤ qk d := by
  cases d with
  | zero => exact Nat.le_refl _
  | succ d => show 5 ≤ 5 + qn d; omega
abbrev dE (s : Sl) (most deep : Int) (nm : List (List Nat)) (st : PV) (o5 : Option Sl) (ps : List PV) (c : Int) (o8 o9 o10 o11 o12 : Option Sl) : B.Env := [some s, some (.fz (I most)), some (.fz (I deep)), some (.ow (nm.map tx)), some (.fz st), o5, some (.fz (.lst ps)), some (.fz (I c)), o8, o9, o10, o11, o12]
def ND (Fr : Fn) (d : Nat) : Prop := ∀ (deep most m K wide : Nat) (nm : List (List Nat)) (s : Sl), deep < d → deep ≤ 12 → most ≤ 400 → 0 < K → K ≤ 60 → 0 < wide → wide ≤ 1000 → Si m s → m + qn deep < 10 ^ 90 → (∀ w ∈ nm, lab w) → nm.length ≤ 100 →
  ∃ (t : T) (s' : Sl) (nm' : List (List Nat)), Nd K deep nm nm' t ∧ t.cnt ≤ most ∧ nm'.length ≤ 100 ∧ Si (m + qn deep) s' ∧
    Fr [s, .fz (I most), .fz (I deep), .ow (nm.map tx), .fz (.tup [I K, I wide])] = .ok (.fz (.lst t.enc)) [some s', some (.fz (I most)), some (.fz (I deep)), some (.ow (nm'.map tx)), some (.fz (.tup [I K, I wide]))]
section
variable {Fr : Fn} {deep most m K wide : Nat} {nm : List (List Nat)} {s : Sl} {ps : List PV} {c v : Int} {st : PV} {o5 : Option Sl} {o8 o9 o10 o11 o12 : Option Sl}
/-- the way is drawn -/
theorem d4 (h : Si m s) (hm : m < 10 ^ 90) : ∃ v s', 0 ≤ v ∧ v < 7 ∧ Si (m + 1) s' ∧ g_l_nodes_4 Fr (dE s most deep nm st o5 ps c o8 o9 o10 o11 o12) = .nx (dE s' most deep nm st o5 ps c (some (.fz (I v))) o9 o10 o11 o12) := by
  obtain ⟨v, s1, a1, b1, hb, p1⟩ := grab h hm (b := 7) (by decide) (by decide)
  refine ⟨v, s1, a1, b1, hb, ?_⟩
  unfold Gv at p1
  obtain ⟨x, y, z, rfl⟩ := h.ow
  obtain ⟨x1, y1, z1, rfl⟩ := hb.ow
  simp only [g_l_nodes_4]
  simp [fnB, plainA, Sl.own, doS, bnd, getV, pur, op2, deref, Sl.pv, lift, sPlus, sSub, sMul, sDiv, sMod, sPow, powC, modC, oor, sAdd, sI, sIc, fnR, outs, seq, nxt, unpS, tgT, tgs, tgN, ifS, tupV, lstV, frzs, frz, sIx, sLe, sLt, sGt, sGe, sAnd, toB, atI, ixN, setS, setIx, setFld, putN, orT, andV, andT, isiV, PV.kd, fldV, ownsA, chkI, chkN, chkK, parS, pass1, p1]
/-- a size is drawn -/
theorem d5 (h : Si m s) (hm : m + 3 < 10 ^ 90) (hw : 0 < wide) (hw2 : wide ≤ 1000) (hst : st = .tup [I K, I wide]) : ∃ (n : Nat) (s' : Sl), n ≤ 1000 ∧ Si (m + 3) s' ∧ g_l_nodes_5 Fr (dE s most deep nm st o5 ps c o8 o9 o10 o11 o12) = .nx (dE s' most deep nm st o5 ps c o8 (some (.fz (.tup [.at (.str "size"), I n]))) o10 o11 o12) := by
  subst hst
  obtain ⟨v1, s1, a1, b1, h1, p1⟩ := grab h (by omega) (b := (wide : Int)) (by omega) (by omega)
  obtain ⟨v2, s2, a2, b2, h2, p2⟩ := grab h1 (by omega) (b := 5) (by decide) (by decide)
  obtain ⟨v3, s3, a3, b3, h3, p3⟩ := grab h2 (by omega) (b := 2) (by decide) (by decide)
  obtain ⟨j1, rfl⟩ := Int.eq_ofNat_of_zero_le a1
  obtain ⟨j2, rfl⟩ := Int.eq_ofNat_of_zero_le a2
  obtain ⟨n, hn, ea⟩ : ∃ n : Nat, n ≤ 1000 ∧ sIx (.lst [I j1, I j2]) (I v3) = some (.fz (I n)) := by
    have : v3 = 0 ∨ v3 = 1 := by omega
    rcases this with rfl | rfl
    · exact ⟨j1, by omega, rfl⟩
    · exact ⟨j2, by omega, rfl⟩
  refine ⟨n, s3, hn, h3, ?_⟩
  have i1 : sIx (.tup [I K, I wide]) (I 1) = some (.fz (I wide)) := rfl
  unfold Gv at p1 p2 p3
  obtain ⟨x, y, z, rfl⟩ := h.ow
  obtain ⟨x1, y1, z1, rfl⟩ := h1.ow
  obtain ⟨x2, y2, z2, rfl⟩ := h2.ow
  obtain ⟨x3, y3, z3, rfl⟩ := h3.ow
  simp only [g_l_nodes_5]
  simp [fnB, plainA, Sl.own, doS, bnd, getV, pur, op2, deref, Sl.pv, lift, sPlus, sSub, sMul, sDiv, sMod, sPow, powC, modC, oor, sAdd, sI, sIc, fnR, outs, seq, nxt, unpS, tgT, tgs, tgN, ifS, tupV, lstV, frzs, frz, sLe, sLt, sGt, sGe, sAnd, toB, atI, ixN, setS, setIx, setFld, putN, orT, andV, andT, isiV, PV.kd, fldV, ownsA, chkI, chkN, chkK, parS, pass1, p1, p2, p3, i1, ea]
abbrev dT1 : M Bool := (andT (bnd (getV 8) fun x => bnd (pur (.fz (.at (.int 0)))) fun y => bnd (op2 sEq x y) toB) (andT (bnd (getV 2) fun x => bnd (pur (.fz (.at (.int 0)))) fun y => bnd (op2 sGt x y) toB) (bnd (bnd (getV 1) fun x => bnd (getV 7) fun y => op2 sSub x y) fun x => bnd (pur (.fz (.at (.int 5)))) fun y => bnd (op2 sGt x y) toB)))
abbrev dT2 : M Bool := (bnd (getV 8) fun x => bnd (pur (.fz (.at (.int 3)))) fun y => bnd (op2 sLt x y) toB)
abbrev dT3 : M Bool := (andT (bnd (getV 8) fun x => bnd (pur (.fz (.at (.int 5)))) fun y => bnd (op2 sLt x y) toB) (bnd (getV 3) fun x => bnd (bnd (pur []) lstV) fun y => bnd (op2 sNe x y) toB))
theorem dT1_ok : dT1 (dE s most deep nm st o5 ps c (some (.fz (I v))) o9 o10 o11 o12) = .ok (decide (v = 0) && (decide (0 < (deep : Int)) && decide (5 < (most : Int) - c))) (dE s most deep nm st o5 ps c (some (.fz (I v))) o9 o10 o11 o12) := by
  by_cases a1 : v = 0 <;> by_cases a2 : 0 < deep <;> by_cases a3 : 5 < (most : Int) - c <;> simp [dT1, andT, bnd, getV, pur, op2, deref, lift, toB, sGt, sSub, sIc, sI, a1, a2, a3]
theorem dT2_ok : dT2 (dE s most deep nm st o5 ps c (some (.fz (I v))) o9 o10 o11 o12) = .ok (decide (v < 3)) (dE s most deep nm st o5 ps c (some (.fz (I v))) o9 o10 o11 o12) := by
  by_cases a1 : v < 3 <;> simp [dT2, bnd, getV, pur, op2, deref, lift, toB, sLt, sIc, sI, a1]
end
end L

set_option Elab.async false
set_option linter.all false
set_option maxRecDepth 100000
set_option maxHeartbeats 4000000
namespace L
open PySem L2 B
theorem strOk_sml {s : List Nat} (h : lab s) : PyData.strOk (SX.S s) = true := by
  have h3 := List.all_eq_true.mp h.2.2
  show (s.toArray).all (fun c => decide (c < 0x110000)) = true
  rw [List.all_toArray]
  refine List.all_eq_true.mpr fun c hc => ?_
  have := h3 c hc
  unfold sml at this
  rw [Bool.and_eq_true] at this
  have := of_decide_eq_true this.2
  exact decide_eq_true (by omega)
theorem pd_lst {ps : List PV} : pd (.lst ps) = (pds ps).map .list := by rw [pd]
theorem pd_tup {ps : List PV} : pd (.tup ps) = (pds ps).map .tuple := by rw [pd]
theorem pds_cons {p : PV} {ps : List PV} {d : PyData} {ds : List PyData} (h : pd p = some d) (h' : pds ps = some ds) : pds (p :: ps) = some (d :: ds) := by
  rw [pds, h, h']
  rfl
theorem enc_pd : ∀ (t : T) (b : Bool), t.ok b → ∃ ds, pds t.enc = some ds ∧ PyData.canLayAll0 ds = true ∧ PyData.depthAll ds ≤ 2 * t.dp + 2 ∧ ds.isEmpty = t.enc.isEmpty
  | .nil, b, _ => ⟨[], by simp [T.enc, pds], by simp [PyData.canLayAll0], by simp [PyData.depthAll], rfl⟩
  | .size n r, b, h => by
    obtain ⟨ds, e1, e2, e3, e4⟩ := enc_pd r b h.2
    refine ⟨.tuple [.str "size", .int n] :: ds, ?_, ?_, ?_, rfl⟩
    · exact pds_cons (by simp [pd, pds]) e1
    · simp [PyData.canLayAll0, PyData.canLay0, e2]; decide +kernel
    · simp [PyData.depthAll, PyData.depth, T.dp]; omega
  | .align k r, b, h => by
    obtain ⟨ds, e1, e2, e3, e4⟩ := enc_pd r b h.2.2
    refine ⟨.tuple [.str "align", .int (2 ^ k)] :: ds, ?_, ?_, ?_, rfl⟩
    · exact pds_cons (by simp [pd, pds]) e1
    · simp [PyData.canLayAll0, PyData.canLay0, e2]; decide +kernel
    · simp [PyData.depthAll, PyData.depth, T.dp]; omega
  | .label s r, b, h => by
    obtain ⟨ds, e1, e2, e3, e4⟩ := enc_pd r b h.2
    have so := strOk_sml h.1
    refine ⟨.tuple [.str "label", .str (SX.S s)] :: ds, ?_, ?_, ?_, rfl⟩
    · exact pds_cons (by simp [pd, pds, tx]) e1
    · simp [PyData.canLayAll0, PyData.canLay0, e2, so]; decide +kernel
    · simp [PyData.depthAll, PyData.depth, T.dp]; omega
  | .rep t x r, b, h => by
    obtain ⟨ds, e1, e2, e3, e4⟩ := enc_pd r b h.2.2.2.2
    obtain ⟨xs, f1, f2, f3, f4⟩ := enc_pd x true h.2.2.2.1
    refine ⟨.tuple [.str "rep", .int t, .list xs] :: ds, ?_, ?_, ?_, rfl⟩
    · exact pds_cons (by simp [pd, pds, f1]) e1
    · simp [PyData.canLayAll0, PyData.canLay0, e2, f2]; decide +kernel
    · simp [PyData.depthAll, PyData.depth, T.dp]; omega
  | .both x y r, b, h => by
    obtain ⟨ds, e1, e2, e3, e4⟩ := enc_pd r b h.2.2.2
    obtain ⟨xs, f1, f2, f3, f4⟩ := enc_pd x false h.2.1
    obtain ⟨ys, g1, g2, g3, g4⟩ := enc_pd y false h.2.2.1
    refine ⟨.tuple [.str "over", .list xs, .list ys] :: ds, ?_, ?_, ?_, rfl⟩
    · exact pds_cons (by simp [pd, pds, f1, g1]) e1
    · simp [PyData.canLayAll0, PyData.canLay0, e2, f2, g2]; decide +kernel
    · simp [PyData.depthAll, PyData.depth, T.dp]; omega
/-- a list that can be compared, against the empty one -/
theorem sNe_nil {ps : List PV} {ds : List PyData} (h : pds ps = some ds) (h2 : PyData.canLayAll0 ds = true) (h3 : PyData.depthAll ds ≤ 60) (h4 : ds.isEmpty = ps.isEmpty) : sNe (.lst ps) (.lst []) = some (.fz (.at (.bl (!ps.isEmpty)))) := by
  have s1 : SeqAt.shaped (.list ds) = true := by simp [SeqAt.shaped, PyData.canLay0, PyData.depth, h2]; omega
  have s2 : SeqAt.shaped (.list []) = true := by simp [SeqAt.shaped, PyData.canLay0, PyData.canLayAll0, PyData.depth, PyData.depthAll]
  have e : PyData.eqv (.list ds) (.list []) = ds.isEmpty := by cases ds <;> simp [PyData.eqv, PyData.eqvAll]
  simp [sNe, oor, sNeA, sNeD, pd, pds, h, s1, s2, e, h4]
theorem enc_ne {t : T} {b : Bool} (h : t.ok b) (hd : t.dp ≤ 12) : sNe (.lst t.enc) (.lst []) = some (.fz (.at (.bl (!t.enc.isEmpty)))) := by
  obtain ⟨ds, e1, e2, e3, e4⟩ := enc_pd t b h
  exact sNe_nil e1 e2 (by omega) e4
theorem tx_pd : ∀ (nm : List (List Nat)), (∀ w ∈ nm, lab w) → ∃ ds, pds (nm.map tx) = some ds ∧ PyData.canLayAll0 ds = true ∧ PyData.depthAll ds = 0 ∧ ds.isEmpty = (nm.map tx).isEmpty
  | [], _ => ⟨[], by simp [pds], by simp [PyData.canLayAll0], by simp [PyData.depthAll], rfl⟩
  | w :: nm, h => by
    obtain ⟨ds, e1, e2, e3, e4⟩ := tx_pd nm fun v hv => h v (List.mem_cons_of_mem _ hv)
    have so := strOk_sml (h w (List.mem_cons_self ..))
    refine ⟨.str (SX.S w) :: ds, ?_, ?_, ?_, rfl⟩
    · exact pds_cons (by simp [pd, tx]) e1
    · simp [PyData.canLayAll0, PyData.canLay0, e2, so]
    · simp [PyData.depthAll, PyData.depth, e3]
theorem nm_ne {nm : List (List Nat)} (h : ∀ w ∈ nm, lab w) : sNe (.lst (nm.map tx)) (.lst []) = some (.fz (.at (.bl (!nm.isEmpty)))) := by
  obtain ⟨ds, e1, e2, e3, e4⟩ := tx_pd nm h
  have e := sNe_nil e1 e2 (by omega) e4
  rw [e]
  cases nm <;> rfl
end L

set_option Elab.async false
set_option linter.all false
set_option maxRecDepth 100000
set_option maxHeartbeats 4000000
namespace L
open PySem L2 B
section
variable {Fr : Fn} {deep most m K wide : Nat} {nm nm' : List (List Nat)} {s s1 s2 : Sl} {ps ns : List PV} {c v : Int} {st node : PV} {o5 : Option Sl} {o8 o9 o10 o11 o12 : Option Sl} {q1 q2 q3 q4 q5 : Option Sl}
theorem pop_at {ρ : B.Env} {i : Nat} (h : i < nm.length) (hl : nm.length ≤ 100) (hr : ρ[3]? = some (some (.ow (nm.map tx)))) : popAtM 3 [.fz (I (i : Int))] ρ = .ok (.fz (tx nm[i])) (ρ.set 3 (some (.ow ((nm.eraseIdx i).map tx)))) := by
  have sm : smallI (i : Int) = true := by unfold smallI; simp; omega
  have sq : seqIndex? (i : Int) (nm.map tx).length = some i := by
    have hh : ¬ ((i : Int) < 0) := by omega
    unfold seqIndex?
    simp [h]
    simp only [if_neg hh]
    omega
  have gi : (nm.map tx)[i]? = some (tx nm[i]) := by simp [h]
  simp only [popAtM, hr, sm, if_true, sq, gi, eraseIdx_map]
abbrev d1v (v : Int) (deep most : Nat) (c : Int) : Bool := decide (v = 0) && (decide (0 < (deep : Int)) && decide (5 < (most : Int) - c))
theorem dT3_ok (hn : ∀ w ∈ nm, lab w) : dT3 (dE s most deep nm st o5 ps c (some (.fz (I v))) o9 o10 o11 o12) = .ok (decide (v < 5) && !nm.isEmpty) (dE s most deep nm st o5 ps c (some (.fz (I v))) o9 o10 o11 o12) := by
  have e := nm_ne hn
  by_cases a1 : v < 5 <;> simp [dT3, andT, bnd, getV, pur, op2, deref, lift, Sl.pv, toB, sLt, sIc, sI, lstV, frzs, a1, e]
theorem d6_rep {j : Int} {b : Bool} (ht : d1v v deep most c = true) (hs : ∃ x c n, s = sl x c n) (hs1 : ∃ x c n, s1 = sl x c n) (hs2 : ∃ x c n, s2 = sl x c n) (j0 : 0 ≤ j) (j4 : j < 4) (p1 : Gv F_l_grab s [.fz (I 4)] (.fz (I j)) s1)
    (e : Fr [s1, .fz (I (((most : Int) - c) / (2 + j))), .fz (I ((deep : Int) - 1)), .ow (nm.map tx), .fz st] = .ok (.fz (.lst ns)) [some s2, q1, q2, some (.ow (nm'.map tx)), q4]) (hb : sNe (.lst ns) (.lst []) = some (.fz (.at (.bl b)))) :
    g_l_nodes_6 Fr (dE s most deep nm st o5 ps c (some (.fz (I v))) (some (.fz node)) o10 o11 o12) = .nx (dE s2 most deep nm' st o5 ps c (some (.fz (I v))) (some (.fz (if b then .tup [.at (.str "rep"), I (2 + j), .lst ns] else node))) o10 (some (.fz (I (2 + j)))) (some (.fz (.lst ns)))) := by
  have cv := fun (ρ : B.Env) h0 h3 => callV_5s (ρ := ρ) h0 h3 e
  have t1 := dT1_ok (s := s) (most := most) (deep := deep) (nm := nm) (st := st) (o5 := o5) (ps := ps) (c := c) (v := v) (o9 := some (.fz node)) (o10 := o10) (o11 := o11) (o12 := o12)
  rw [show (decide (v = 0) && (decide (0 < (deep : Int)) && decide (5 < (most : Int) - c))) = true from ht] at t1
  have dv : ∀ z, divC z (2 + j) = true := fun z => divC_bd (n := 10) (by omega) (Bd.of (j := 100) (by omega) (by omega) (by unfold Bd; decide))
  obtain ⟨x, y, z, rfl⟩ := hs
  obtain ⟨x1, y1, z1, rfl⟩ := hs1
  obtain ⟨x2, y2, z2, rfl⟩ := hs2
  unfold Gv at p1
  rw [g_l_nodes_6, ifS_t t1]
  simp only [g_l_nodes_1, g_l_nodes_2, g_l_nodes_3]
  cases b <;> simp [fnB, plainA, Sl.own, doS, bnd, getV, pur, op2, deref, Sl.pv, lift, sPlus, sSub, sMul, sDiv, sMod, sPow, powC, modC, oor, sAdd, sI, sIc, fnR, outs, seq, nxt, unpS, tgT, tgs, tgN, ifS, tupV, lstV, frzs, frz, sIx, sLe, sLt, sGt, sGe, sAnd, toB, atI, ixN, setS, setIx, setFld, putN, orT, andV, andT, isiV, PV.kd, fldV, ownsA, chkI, chkN, chkK, parS, pass1, p1, dv, cv, hb]
theorem d6_align {k : Nat} (ht : d1v v deep most c = false) (hv : v < 3) (hst : st = .tup [I K, I wide]) (hs : ∃ x c n, s = sl x c n) (hs1 : ∃ x c n, s1 = sl x c n) (p1 : Gv F_l_power s [.fz (I K)] (.fz (I (2 ^ k))) s1) :
    g_l_nodes_6 Fr (dE s most deep nm st o5 ps c (some (.fz (I v))) (some (.fz node)) o10 o11 o12) = .nx (dE s1 most deep nm st o5 ps c (some (.fz (I v))) (some (.fz (.tup [.at (.str "align"), I (2 ^ k)]))) o10 o11 o12) := by
  subst hst
  have t1 := dT1_ok (s := s) (most := most) (deep := deep) (nm := nm) (st := .tup [I K, I wide]) (o5 := o5) (ps := ps) (c := c) (v := v) (o9 := some (.fz node)) (o10 := o10) (o11 := o11) (o12 := o12)
  rw [show (decide (v = 0) && (decide (0 < (deep : Int)) && decide (5 < (most : Int) - c))) = false from ht] at t1
  have t2 := dT2_ok (s := s) (most := most) (deep := deep) (nm := nm) (st := .tup [I K, I wide]) (o5 := o5) (ps := ps) (c := c) (v := v) (o9 := some (.fz node)) (o10 := o10) (o11 := o11) (o12 := o12)
  rw [decide_eq_true hv] at t2
  have i0 : sIx (.tup [I K, I wide]) (I 0) = some (.fz (I K)) := rfl
  obtain ⟨x, y, z, rfl⟩ := hs
  obtain ⟨x1, y1, z1, rfl⟩ := hs1
  unfold Gv at p1
  rw [g_l_nodes_6, ifS_f t1, ifS_t t2]
  simp [fnB, plainA, Sl.own, doS, bnd, getV, pur, op2, deref, Sl.pv, lift, sPlus, sSub, sMul, sDiv, sMod, sPow, powC, modC, oor, sAdd, sI, sIc, fnR, outs, seq, nxt, unpS, tgT, tgs, tgN, ifS, tupV, lstV, frzs, frz, sLe, sLt, sGt, sGe, sAnd, toB, atI, ixN, setS, setIx, setFld, putN, orT, andV, andT, isiV, PV.kd, fldV, ownsA, chkI, chkN, chkK, parS, pass1, p1, i0]
theorem d6_label {i : Nat} (hn : ∀ w ∈ nm, lab w) (hl : nm.length ≤ 100) (hi : i < nm.length) (ht : d1v v deep most c = false) (hv : ¬ v < 3) (hv5 : v < 5) (hs : ∃ x c n, s = sl x c n) (hs1 : ∃ x c n, s1 = sl x c n) (p1 : Gv F_l_grab s [.fz (I nm.length)] (.fz (I i)) s1) :
    g_l_nodes_6 Fr (dE s most deep nm st o5 ps c (some (.fz (I v))) (some (.fz node)) o10 o11 o12) = .nx (dE s1 most deep (nm.eraseIdx i) st o5 ps c (some (.fz (I v))) (some (.fz (.tup [.at (.str "label"), tx nm[i]]))) o10 o11 o12) := by
  have t1 := dT1_ok (s := s) (most := most) (deep := deep) (nm := nm) (st := st) (o5 := o5) (ps := ps) (c := c) (v := v) (o9 := some (.fz node)) (o10 := o10) (o11 := o11) (o12 := o12)
  rw [show (decide (v = 0) && (decide (0 < (deep : Int)) && decide (5 < (most : Int) - c))) = false from ht] at t1
  have t2 := dT2_ok (s := s) (most := most) (deep := deep) (nm := nm) (st := st) (o5 := o5) (ps := ps) (c := c) (v := v) (o9 := some (.fz node)) (o10 := o10) (o11 := o11) (o12 := o12)
  rw [decide_eq_false hv] at t2
  have t3 := dT3_ok (s := s) (most := most) (deep := deep) (st := st) (o5 := o5) (ps := ps) (c := c) (v := v) (o9 := some (.fz node)) (o10 := o10) (o11 := o11) (o12 := o12) hn
  rw [decide_eq_true hv5, show nm.isEmpty = false by cases nm with | nil => simp at hi | cons a b => rfl] at t3
  have ln : sLen [.lst (nm.map tx)] = some (.fz (I nm.length)) := by rw [sLen_lst, List.length_map]
  have pa := fun (ρ : B.Env) h => pop_at (ρ := ρ) hi hl h
  obtain ⟨x, y, z, rfl⟩ := hs
  obtain ⟨x1, y1, z1, rfl⟩ := hs1
  unfold Gv at p1
  rw [g_l_nodes_6, ifS_f t1, ifS_f t2, ifS_t t3]
  simp [fnB, plainA, Sl.own, doS, bnd, getV, pur, op2, deref, Sl.pv, lift, sPlus, sSub, sMul, sDiv, sMod, sPow, powC, modC, oor, sAdd, sI, sIc, fnR, outs, seq, nxt, unpS, tgT, tgs, tgN, ifS, tupV, lstV, frzs, frz, sIx, sLe, sLt, sGt, sGe, sAnd, toB, atI, ixN, setS, setIx, setFld, putN, orT, andV, andT, isiV, PV.kd, fldV, ownsA, chkI, chkN, chkK, parS, pass1, hasO, bltV, derefs, ln, p1, pa]
theorem d6_none (hn : ∀ w ∈ nm, lab w) (ht : d1v v deep most c = false) (hv : ¬ v < 3) (h5 : (decide (v < 5) && !nm.isEmpty) = false) :
    g_l_nodes_6 Fr (dE s most deep nm st o5 ps c (some (.fz (I v))) o9 o10 o11 o12) = .nx (dE s most deep nm st o5 ps c (some (.fz (I v))) o9 o10 o11 o12) := by
  have t1 := dT1_ok (s := s) (most := most) (deep := deep) (nm := nm) (st := st) (o5 := o5) (ps := ps) (c := c) (v := v) (o9 := o9) (o10 := o10) (o11 := o11) (o12 := o12)
  rw [show (decide (v = 0) && (decide (0 < (deep : Int)) && decide (5 < (most : Int) - c))) = false from ht] at t1
  have t2 := dT2_ok (s := s) (most := most) (deep := deep) (nm := nm) (st := st) (o5 := o5) (ps := ps) (c := c) (v := v) (o9 := o9) (o10 := o10) (o11 := o11) (o12 := o12)
  rw [decide_eq_false hv] at t2
  have t3 := dT3_ok (s := s) (most := most) (deep := deep) (st := st) (o5 := o5) (ps := ps) (c := c) (v := v) (o9 := o9) (o10 := o10) (o11 := o11) (o12 := o12) hn
  rw [h5] at t3
  rw [g_l_nodes_6, ifS_f t1, ifS_f t2, ifS_f t3]
  rfl
abbrev dCost : MS := (doS (bnd (bnd (bnd (bnd (getV 9) fun x => bnd (pur []) fun xs => pur (x :: xs)) lstV) fun x => bnd (pur []) fun xs => pur (x :: xs)) fun xs => callV [false] F_l_count xs) fun v => setS false 10 v)
theorem d10 {k : Int} (e : ∀ ρ, bk0 (F_l_count [.fz (.lst [node])]) ρ = .ok (.fz (I k)) ρ) : dCost (dE s most deep nm st o5 ps c o8 (some (.fz node)) o10 o11 o12) = .nx (dE s most deep nm st o5 ps c o8 (some (.fz node)) (some (.fz (I k))) o11 o12) := by
  simp [dCost, fnB, plainA, Sl.own, doS, bnd, getV, pur, op2, deref, Sl.pv, lift, sPlus, sSub, sMul, sDiv, sMod, sPow, powC, modC, oor, sAdd, sI, sIc, fnR, outs, seq, nxt, unpS, tgT, tgs, tgN, ifS, tupV, lstV, frzs, frz, sIx, sLe, sLt, sGt, sGe, sAnd, toB, atI, ixN, setS, setIx, setFld, putN, orT, andV, andT, isiV, PV.kd, fldV, ownsA, chkI, chkN, chkK, parS, pass1, e]
theorem d7 {k : Int} (hp : ps.length ≤ 1000) : g_l_nodes_7 Fr (dE s most deep nm st o5 ps c o8 (some (.fz node)) (some (.fz (I k))) o11 o12) = .nx (if c + k ≤ (most : Int) then dE s most deep nm st o5 (ps ++ [node]) (c + k) o8 (some (.fz node)) (some (.fz (I k))) o11 o12 else dE s most deep nm st o5 ps c o8 (some (.fz node)) (some (.fz (I k))) o11 o12) := by
  have z := small (ps.length + 1) (by omega)
  simp only [g_l_nodes_7]
  by_cases h : c + k ≤ (most : Int) <;> simp [fnB, plainA, Sl.own, doS, bnd, getV, pur, op2, deref, Sl.pv, lift, sPlus, sSub, sMul, sDiv, sMod, sPow, powC, modC, oor, sAdd, sI, sIc, fnR, outs, seq, nxt, unpS, tgT, tgs, tgN, ifS, tupV, lstV, frzs, frz, sIx, sLe, sLt, sGt, sGe, sAnd, toB, atI, ixN, setS, setIx, setFld, putN, orT, andV, andT, isiV, PV.kd, fldV, ownsA, chkI, chkN, chkK, parS, pass1, h, sCatS_lst, sCatL, z]
end
end L

set_option Elab.async false
set_option linter.all false
set_option maxRecDepth 100000
set_option maxHeartbeats 4000000
namespace L
open PySem L2 B
section
variable {Fr : Fn} {deep most m K wide : Nat} {nm : List (List Nat)} {s : Sl} {st : PV} {o5 : Option Sl} {o8 o9 o10 o11 o12 : Option Sl}
theorem enc_nil {t : T} (h : t.enc.isEmpty = true) : t = .nil := by
  cases t <;> first | rfl | simp [T.enc] at h
/-- a node is drawn -/
theorem node_of (hF : ND Fr deep) (hd12 : deep ≤ 12) (hst : st = .tup [I K, I wide]) (hm4 : most ≤ 400) (hK : 0 < K) (hK6 : K ≤ 60) (hw : 0 < wide) (hw2 : wide ≤ 1000) (h : Si m s) (hm : m + qk deep < 10 ^ 90) (hn : ∀ w ∈ nm, lab w) (hl : nm.length ≤ 100) (c : Nat) (hc : c ≤ most) (ps : List PV) :
    ∃ (N : T) (node : PV) (s' : Sl) (nm' : List (List Nat)) (p8 p10 p11 p12 : Option Sl), Nd K deep nm nm' N ∧ N.enc = [node] ∧ N.cnt ≤ 400 ∧ Si (m + qk deep) s' ∧ nm'.length ≤ 100 ∧
      (seq (g_l_nodes_4 Fr) (seq (g_l_nodes_5 Fr) (g_l_nodes_6 Fr))) (dE s most deep nm st o5 ps (c : Int) o8 o9 o10 o11 o12) = .nx (dE s' most deep nm' st o5 ps (c : Int) p8 (some (.fz node)) p10 p11 p12) := by
  have kp := qk_pos deep
  obtain ⟨v, s1, v0, v7, h1, e4⟩ := d4 (Fr := Fr) (most := most) (deep := deep) (nm := nm) (st := st) (o5 := o5) (ps := ps) (c := (c : Int)) (o8 := o8) (o9 := o9) (o10 := o10) (o11 := o11) (o12 := o12) h (by omega)
  obtain ⟨n, s2, n1, h2, e5⟩ := d5 (Fr := Fr) (most := most) (deep := deep) (nm := nm) (st := st) (o5 := o5) (ps := ps) (c := (c : Int)) (o8 := some (.fz (I v))) (o9 := o9) (o10 := o10) (o11 := o11) (o12 := o12) h1 (by omega) hw hw2 hst
  have n30 : n ≤ 10 ^ 30 := Nat.le_trans n1 (by decide)
  have ndS : Nd K deep nm nm (.size n .nil) := ⟨⟨n30, trivial⟩, Nat.zero_le _, by simp [T.len, T.cnt], fun w => by simp [T.labs], trivial⟩
  have done : ∀ {N : T} {node : PV} {s' : Sl} {nm' : List (List Nat)} {p8 p10 p11 p12 : Option Sl}, g_l_nodes_6 Fr (dE s2 most deep nm st o5 ps (c : Int) (some (.fz (I v))) (some (.fz (.tup [.at (.str "size"), I n]))) o10 o11 o12) = .nx (dE s' most deep nm' st o5 ps (c : Int) p8 (some (.fz node)) p10 p11 p12) →
      (seq (g_l_nodes_4 Fr) (seq (g_l_nodes_5 Fr) (g_l_nodes_6 Fr))) (dE s most deep nm st o5 ps (c : Int) o8 o9 o10 o11 o12) = .nx (dE s' most deep nm' st o5 ps (c : Int) p8 (some (.fz node)) p10 p11 p12) := fun e6 => seq_nx e4 (seq_nx e5 e6)
  cases ht : d1v v deep most (c : Int) with
  | true =>
    have hc3 : v = 0 ∧ 0 < deep ∧ 5 < (most : Int) - c := by
      simp only [d1v, Bool.and_eq_true, decide_eq_true_eq] at ht
      exact ⟨ht.1, by omega, ht.2.2⟩
    obtain ⟨d, rfl⟩ : ∃ d, deep = d + 1 := ⟨deep - 1, by omega⟩
    have hq : qk (d + 1) = 5 + qn d := rfl
    obtain ⟨j, s3, j0, j4, h3, p3⟩ := grab h2 (by omega) (b := 4) (by decide) (by decide)
    obtain ⟨i, rfl⟩ := Int.eq_ofNat_of_zero_le j0
    obtain ⟨t, s4, nm', P, tc, nl, h4, eF⟩ := hF d ((most - c) / (2 + i)) (m + 1 + 3 + 1) K wide nm s3 (by omega) (by omega) (Nat.le_trans (Nat.div_le_self _ _) (by omega)) hK hK6 hw hw2 h3 (by omega) hn hl
    have ec : (((most - c) / (2 + i) : Nat) : Int) = ((most : Int) - (c : Int)) / (2 + (i : Int)) := by
      rw [Int.natCast_ediv, Int.ofNat_sub hc]
      rfl
    have ed : ((d : Nat) : Int) = (((d + 1 : Nat) : Int)) - 1 := by omega
    rw [ec, ed, ← hst] at eF
    have hne := enc_ne (ok_any P.ok true) (by have := P.dp; omega)
    have e6 := d6_rep (node := .tup [.at (.str "size"), I n]) (most := most) (o5 := o5) (ps := ps) (c := (c : Int)) (o10 := o10) (o11 := o11) (o12 := o12) ht h2.ow h3.ow h4.ow j0 j4 p3 eF hne
    by_cases hE : t.enc.isEmpty = true
    · have tn := enc_nil hE
      rw [hE] at e6
      have P0 : Nd K (d + 1) nm nm' (.size n .nil) := ⟨⟨n30, trivial⟩, Nat.zero_le _, by simp [T.len, T.cnt], ndS.few.less P.few.rest, trivial⟩
      exact ⟨.size n .nil, _, s4, nm', _, _, _, _, P0, rfl, by simp [T.cnt], h4.mono (by omega), nl, done (N := .nil) e6⟩
    · rw [Bool.not_eq_true] at hE
      rw [hE] at e6
      have tn : t ≠ .nil := by rintro rfl; simp [T.enc] at hE
      have P1 := P.rep (n := 2 + i) tn (by omega) (Nat.le_trans (show 2 + i ≤ 100 by omega) (by decide))
      have mu : (2 + i) * t.cnt ≤ most - c := Nat.le_trans (Nat.mul_le_mul_left _ tc) (Nat.mul_div_le _ _)
      have e2 : 2 + (i : Int) = ((2 + i : Nat) : Int) := by omega
      rw [show (if (!false) = true then PV.tup [.at (.str "rep"), I (2 + (i : Int)), .lst t.enc] else .tup [.at (.str "size"), I n]) = PV.tup [.at (.str "rep"), I (2 + (i : Int)), .lst t.enc] from rfl, e2] at e6
      have fin := done (N := .nil) e6
      exact ⟨.rep (2 + i) t .nil, _, s4, nm', _, _, _, _, P1, rfl, by simp only [T.cnt]; omega, h4.mono (by omega), nl, fin⟩
  | false =>
    by_cases hv3 : v < 3
    · obtain ⟨k, s3, k1, k2, h3, p3⟩ := e_lpower h2 (by omega) hK hK6
      have e6 := d6_align (Fr := Fr) (node := .tup [.at (.str "size"), I n]) (nm := nm) (o5 := o5) (ps := ps) (o10 := o10) (o11 := o11) (o12 := o12) ht hv3 hst h2.ow h3.ow p3
      have P1 : Nd K deep nm nm (.align k .nil) := ⟨⟨k1, by omega, trivial⟩, Nat.zero_le _, by simp [T.len, T.cnt], fun w => by simp [T.labs], k2, trivial⟩
      exact ⟨.align k .nil, _, s3, nm, _, _, _, _, P1, rfl, by simp [T.cnt], h3.mono (by omega), hl, done (N := .nil) e6⟩
    · by_cases h5 : (decide (v < 5) && !nm.isEmpty) = true
      · rw [Bool.and_eq_true, decide_eq_true_eq] at h5
        have np : 0 < nm.length := by
          cases nm with
          | nil => simp at h5
          | cons a b => simp
        obtain ⟨i, s3, i0, il, h3, p3⟩ := grab h2 (by omega) (b := (nm.length : Int)) (by omega) (by omega)
        obtain ⟨i, rfl⟩ := Int.eq_ofNat_of_zero_le i0
        have hi : i < nm.length := by omega
        have e6 := d6_label (Fr := Fr) (node := .tup [.at (.str "size"), I n]) (st := st) (o5 := o5) (ps := ps) (o10 := o10) (o11 := o11) (o12 := o12) hn hl hi ht hv3 h5.1 h2.ow h3.ow p3
        have P1 : Nd K deep nm (nm.eraseIdx i) (.label nm[i] .nil) := ⟨⟨hn _ (List.getElem_mem hi), trivial⟩, Nat.zero_le _, by simp [T.len, T.cnt], fun w => by
          have := count_erase nm i w hi
          simp only [T.labs, List.count_cons, List.count_nil]
          omega, trivial⟩
        exact ⟨.label nm[i] .nil, _, s3, nm.eraseIdx i, _, _, _, _, P1, rfl, by simp [T.cnt], h3.mono (by omega), by rw [List.length_eraseIdx]; split <;> omega, done (N := .nil) e6⟩
      · rw [Bool.not_eq_true] at h5
        have e6 := d6_none (Fr := Fr) (s := s2) (st := st) (o5 := o5) (ps := ps) (o9 := some (.fz (.tup [.at (.str "size"), I n]))) (o10 := o10) (o11 := o11) (o12 := o12) hn ht hv3 h5
        exact ⟨.size n .nil, _, s2, nm, _, _, _, _, ndS, rfl, by simp [T.cnt], h2.mono (by omega), hl, done (N := .nil) e6⟩
theorem Few.lab {t : T} {nm nm' : List (List Nat)} (h : t.Few nm nm') (hn : ∀ w ∈ nm, lab w) : ∀ w ∈ nm', lab w := fun w hw => by
  have h1 : 0 < nm'.count w := List.count_pos_iff.mpr hw
  have := h w
  exact hn w (List.count_pos_iff.mp (by omega))
theorem seq_as {a b c : MS} : seq a (seq b c) = seq (seq a b) c := by
  funext E
  unfold seq
  cases a E <;> rfl
theorem seq3 {a b c x : MS} : seq a (seq b (seq c x)) = seq (seq a (seq b c)) x := by
  rw [seq_as (a := b) (b := c) (c := x), seq_as (a := a) (b := seq b c) (c := x)]
/-- a turn -/
theorem turnN (hF : ND Fr deep) (hd12 : deep ≤ 12) (hst : st = .tup [I K, I wide]) (hm4 : most ≤ 400) (hK : 0 < K) (hK6 : K ≤ 60) (hw : 0 < wide) (hw2 : wide ≤ 1000) (h : Si m s) (hm : m + qk deep < 10 ^ 90) (hn : ∀ w ∈ nm, lab w) (hl : nm.length ≤ 100) (acc : T) {nm0 : List (List Nat)} (A : Nd K deep nm0 nm acc) (hc : acc.cnt ≤ most) :
    ∃ (t : T) (s' : Sl) (nm' : List (List Nat)) (p8 p9 p10 p11 p12 : Option Sl), Nd K deep nm0 nm' t ∧ t.cnt ≤ most ∧ Si (m + qk deep) s' ∧ nm'.length ≤ 100 ∧ (∀ w ∈ nm', lab w) ∧
      g_l_nodes_8 Fr (dE s most deep nm st o5 acc.enc (acc.cnt : Int) o8 o9 o10 o11 o12) = .nx (dE s' most deep nm' st o5 t.enc (t.cnt : Int) p8 p9 p10 p11 p12) := by
  obtain ⟨N, node, s1, nm', p8, p10, p11, p12, P, en, nc, h1, nl, e⟩ := node_of (Fr := Fr) (o5 := o5) (o8 := o8) (o9 := o9) (o10 := o10) (o11 := o11) (o12 := o12) hF hd12 hst hm4 hK hK6 hw hw2 h hm hn hl acc.cnt hc acc.enc
  have nlen := P.len
  have ec : ∀ ρ, bk0 (F_l_count [.fz (.lst [node])]) ρ = .ok (.fz (I N.cnt)) ρ := fun ρ => by
    rw [← en]
    exact e_lcount P.ok (by have := P.dp; omega) (by omega) (Bd.of (j := 400) (by omega) (by omega) (by unfold Bd; decide))
  have e10 := d10 (s := s1) (most := most) (deep := deep) (nm := nm') (st := st) (o5 := o5) (ps := acc.enc) (c := (acc.cnt : Int)) (o8 := p8) (o10 := p10) (o11 := p11) (o12 := p12) ec
  have e7 := d7 (Fr := Fr) (s := s1) (most := most) (deep := deep) (nm := nm') (st := st) (o5 := o5) (ps := acc.enc) (c := (acc.cnt : Int)) (o8 := p8) (node := node) (k := (N.cnt : Int)) (o11 := p11) (o12 := p12) (by have := T.enc_len acc; have := A.len; omega)
  have lb := Few.lab P.few hn
  have e8 := seq_nx e (seq_nx e10 e7)
  have q : g_l_nodes_8 Fr = seq (seq (g_l_nodes_4 Fr) (seq (g_l_nodes_5 Fr) (g_l_nodes_6 Fr))) (seq dCost (g_l_nodes_7 Fr)) := by
    show seq _ (seq _ (seq _ (seq dCost _))) = _
    exact seq3
  rw [← q] at e8
  by_cases hcn : acc.cnt + N.cnt ≤ most
  · rw [if_pos (show (acc.cnt : Int) + (N.cnt : Int) ≤ (most : Int) by omega)] at e8
    have ea := T.enc_app acc N
    have ca := T.cnt_app acc N
    rw [en] at ea
    rw [← ea, ← Int.natCast_add, ← ca] at e8
    exact ⟨acc.app N, s1, nm', _, _, _, _, _, A.app P, by omega, h1, nl, lb, e8⟩
  · rw [if_neg (show ¬ (acc.cnt : Int) + (N.cnt : Int) ≤ (most : Int) by omega)] at e8
    exact ⟨acc, s1, nm', _, _, _, _, _, A.drop P, hc, h1, nl, lb, e8⟩
theorem nodes_loop (hF : ND Fr deep) (hd12 : deep ≤ 12) (hst : st = .tup [I K, I wide]) (hm4 : most ≤ 400) (hK : 0 < K) (hK6 : K ≤ 60) (hw : 0 < wide) (hw2 : wide ≤ 1000) (nm0 : List (List Nat)) : ∀ (qs : List PV) (m : Nat) (s : Sl) (nm : List (List Nat)) (acc : T) (o5 : Option Sl) (o8 o9 o10 o11 o12 : Option Sl), Si m s → m + qs.length * qk deep < 10 ^ 90 → (∀ w ∈ nm, lab w) → nm.length ≤ 100 → Nd K deep nm0 nm acc → acc.cnt ≤ most →
    ∃ (t : T) (s' : Sl) (nm' : List (List Nat)) (p5 : Option Sl) (p8 p9 p10 p11 p12 : Option Sl), Nd K deep nm0 nm' t ∧ t.cnt ≤ most ∧ Si (m + qs.length * qk deep) s' ∧ nm'.length ≤ 100 ∧
      forS (tgN 5) (g_l_nodes_8 Fr) qs (dE s most deep nm st o5 acc.enc (acc.cnt : Int) o8 o9 o10 o11 o12) = .nx (dE s' most deep nm' st p5 t.enc (t.cnt : Int) p8 p9 p10 p11 p12)
  | [], m, s, nm, acc, o5, o8, o9, o10, o11, o12, h, hm, hn, hl, A, hc => ⟨acc, s, nm, o5, o8, o9, o10, o11, o12, A, hc, h.mono (by omega), hl, rfl⟩
  | q :: qs, m, s, nm, acc, o5, o8, o9, o10, o11, o12, h, hm, hn, hl, A, hc => by
    have el : (q :: qs).length * qk deep = qk deep + qs.length * qk deep := by rw [List.length_cons, Nat.succ_mul, Nat.add_comm]
    rw [el] at hm ⊢
    obtain ⟨t, s1, nm1, p8, p9, p10, p11, p12, P, tc, h1, l1, lb, e⟩ := turnN (Fr := Fr) (o5 := some (.fz q)) (o8 := o8) (o9 := o9) (o10 := o10) (o11 := o11) (o12 := o12) hF hd12 hst hm4 hK hK6 hw hw2 h (by omega) hn hl acc A hc
    obtain ⟨t2, s2, nm2, p5, q8, q9, q10, q11, q12, P2, tc2, h2, l2, e2⟩ := nodes_loop hF hd12 hst hm4 hK hK6 hw hw2 nm0 qs (m + qk deep) s1 nm1 t (some (.fz q)) p8 p9 p10 p11 p12 h1 (by omega) lb l1 P tc
    refine ⟨t2, s2, nm2, p5, q8, q9, q10, q11, q12, P2, tc2, by rw [← Nat.add_assoc]; exact h2, l2, ?_⟩
    rw [forS_nx (ρ1 := dE s most deep nm st (some (.fz q)) acc.enc (acc.cnt : Int) o8 o9 o10 o11 o12) rfl e]
    exact e2
theorem nd_step {d : Nat} (hF : ND Fr d) : ND (fnB 5 13 [0, 3] (g_l_nodes Fr)) (d + 1) := by
  intro deep most m K wide nm s hd hd12 hm4 hK hK6 hw hw2 h hm hn hl
  have hF' : ND Fr deep := fun deep' most m K wide nm s hd' => hF deep' most m K wide nm s (by omega)
  have kl := qk_le deep
  obtain ⟨j, s1, j0, j12, h1, p1⟩ := grab h (by omega) (b := 12) (by decide) (by decide)
  obtain ⟨i, rfl⟩ := Int.eq_ofNat_of_zero_le j0
  have sm : smallI (1 + (i : Int)) = true := by unfold smallI; simp; omega
  have ln : (rngL 0 (1 + (i : Int))).length = 1 + i := by simp [rngL]; omega
  have mk : (1 + i) * qk deep ≤ 12 * qk deep := Nat.mul_le_mul_right _ (by omega)
  obtain ⟨t, s2, nm2, p5, p8, p9, p10, p11, p12, P, tc, h2, l2, e⟩ := nodes_loop (st := .tup [I K, I wide]) (most := most) hF' hd12 rfl hm4 hK hK6 hw hw2 nm (rngL 0 (1 + (i : Int))) (m + 1) s1 nm .nil none none none none none none h1 (by rw [ln]; omega) hn hl Nd.nil (Nat.zero_le _)
  rw [ln] at h2
  refine ⟨t, s2, nm2, P, tc, l2, h2.mono (by omega), ?_⟩
  have e' : forS (tgN 5) (g_l_nodes_8 Fr) (rngL 0 (1 + (i : Int))) [some s1, some (.fz (I most)), some (.fz (I deep)), some (.ow (nm.map tx)), some (.fz (.tup [I K, I wide])), none, some (.fz (.lst [])), some (.fz (I 0)), none, none, none, none, none] = _ := e
  unfold Gv at p1
  obtain ⟨x, y, z, rfl⟩ := h.ow
  obtain ⟨x1, y1, z1, rfl⟩ := h1.ow
  obtain ⟨x2, y2, z2, rfl⟩ := h2.ow
  generalize t.enc = te at *
  generalize (t.cnt : Int) = ct at *
  simp only [g_l_nodes, g_l_nodes_9]
  simp [fnB, plainA, Sl.own, doS, bnd, getV, pur, op2, deref, Sl.pv, lift, sPlus, sSub, sMul, sDiv, sMod, sPow, powC, modC, oor, sAdd, sI, sIc, fnR, outs, seq, nxt, unpS, tgT, tgs, tgN, ifS, tupV, lstV, frzs, frz, sIx, sLe, sLt, sGt, sGe, sAnd, toB, atI, ixN, setS, setIx, setFld, putN, orT, andV, andT, isiV, PV.kd, fldV, ownsA, chkI, chkN, chkK, parS, pass1, p1, forR1_, sm, e', Sl.own, ownsA]
theorem nd_all : ∀ n : Nat, ND (recB 5 13 [0, 3] g_l_nodes n) n
  | 0 => fun deep most m K wide nm s hd => absurd hd (by omega)
  | n + 1 => nd_step (nd_all n)
end
end L

set_option Elab.async false
set_option linter.all false
set_option maxRecDepth 100000
set_option maxHeartbeats 4000000
namespace L
open PySem L2 B
/-! ### the law's walk, word by word -/
structure R1 where
  kd : Str
  w : Int
  ps : List PV
  a : Int
  b : Int
  q : PV
def R1.pv (r : R1) : PV := .tup [.at (.str r.kd), I r.w, .tup r.ps, I r.a, I r.b, r.q]
def gapS : List R1 → Int
  | [] => 0
  | r :: rs => (if r.kd = "align" then r.b - r.a else 0) + gapS rs
theorem gapS_app : ∀ a b : List R1, gapS (a ++ b) = gapS a + gapS b
  | [], b => by simp [gapS]
  | r :: a, b => by simp only [List.cons_append, gapS, gapS_app a b]; omega
theorem cnt_pos : ∀ t : T, t.ok true → t ≠ .nil → 1 ≤ t.cnt
  | .nil, _, h => (h rfl).elim
  | .size n r, _, _ => by simp only [T.cnt]; omega
  | .align n r, _, _ => by simp only [T.cnt]; omega
  | .label n r, _, _ => by simp only [T.cnt]; omega
  | .rep t b r, h, _ => by
    have h1 := cnt_pos b h.2.2.2.1 h.2.2.1
    have h2 : 1 * 1 ≤ t * b.cnt := Nat.mul_le_mul (by have := h.1; omega) h1
    simp only [T.cnt]; omega
  | .both x y r, h, _ => by simp [T.ok] at h
section
variable {F Fr : Fn} {p p1 p2 p3 p4 : PV} {u u' : Sl} {q1 q2 q3 q4 : Option Sl} {ρ : B.Env} {j : Nat}
theorem callV_5w (hj : ρ[j]? = some (some u)) (e : F [.fz p1, .fz p2, .fz p3, .fz p4, u] = .ok (.fz p) [q1, q2, q3, q4, some u']) :
    callV [false, false, false, false, true] F [.fz p1, .fz p2, .fz p3, .fz p4, .vr j] ρ = .ok (.fz p) (ρ.set j (some u')) := by
  simp [callV, bnd, pass1, pur, frz, slsOf, slOf, hj, vrIx, e, back]
  show ([j] : List Nat).Nodup
  simp
theorem e_lceil {k : Nat} {x : Int} (hk : k ≤ 60) (hx : 0 ≤ x) (bx : Bd 3000 x) : bk0 (F_l_ceil [.fz (I (2 ^ k)), .fz (I x)]) ρ = .ok (.fz (I (cl (2 ^ k) x))) ρ := by
  have pw : Pw ((2 : Int) ^ k) := ⟨k, hk, rfl⟩
  have hm := pw.pos
  have bn : Bd 3000 (0 - x) := by unfold Bd at *; omega
  have dv : divC (0 - x) (2 ^ k) = true := Bd.divC' pw
  have mu : mulC ((0 - x) / 2 ^ k) (2 ^ k) = true := mulC_bd (bn.div hm) pw.bd
  have e : cl (2 ^ k) x = 0 - (0 - x) / 2 ^ k * 2 ^ k := by
    have h1 := Int.emod_add_mul_ediv (0 - x) ((2 : Int) ^ k)
    have h2 := Int.emod_nonneg (0 - x) (Int.ne_of_gt hm)
    have h3 := Int.emod_lt_of_pos (0 - x) hm
    have h4 := Int.mul_comm ((0 - x) / 2 ^ k) ((2 : Int) ^ k)
    refine cl_eq hm ⟨0 - (0 - x) / 2 ^ k, by rw [Int.mul_sub, h4]; omega⟩ (by omega) (by omega)
  rw [e]
  have hz : ∀ z : Int, 0 - z = -z := fun z => by omega
  simp only [hz] at dv mu
  simp only [F_l_ceil, g_l_ceil]
  generalize (2 : Int) ^ k = m at *
  simp [fnB, plainA, Sl.own, doS, bnd, getV, pur, op2, deref, Sl.pv, lift, sPlus, sSub, sMul, sDiv, sMod, sPow, powC, modC, oor, sAdd, sI, sIc, fnR, outs, seq, nxt, unpS, tgT, tgs, tgN, ifS, tupV, lstV, frzs, frz, sIx, sLe, sLt, sGt, sGe, sAnd, toB, atI, ixN, setS, setIx, setFld, putN, orT, andV, andT, isiV, PV.kd, fldV, ownsA, chkI, chkN, chkK, parS, pass1, dv, mu]
abbrev wE (L : PV) (x w : Int) (ps rows : List PV) (o5 o6 o7 o8 o9 o10 : Option Sl) : B.Env := [some (.fz L), some (.fz (I x)), some (.fz (I w)), some (.fz (.tup ps)), some (.ow rows), o5, o6, o7, o8, o9, o10]
end
section
variable {Fr : Fn} {L : PV} {x w : Int} {ps rows ns : List PV} {o6 o7 o8 o9 o10 : Option Sl}
theorem plusT {a b : List PV} (h : a.length + b.length ≤ sizeLine) : sPlusT (.tup a) (.tup b) = some (.fz (.tup (a ++ b))) := by
  have e : sPlus (.tup a) (.tup b) = none := rfl
  unfold sPlusT oor
  rw [e]
  show (if _ then _ else _) = _
  rw [if_pos h]
theorem wk_size {n : Nat} (hr : rows.length ≤ 5000) : g_l_walk_10 Fr (wE L x w ps rows (some (.fz (.tup [.at (.str "size"), I n]))) o6 o7 o8 o9 o10) = .nx (wE L (x + n) (w + 1) ps (rows ++ [R1.pv ⟨"size", w, ps, x, x + n, I n⟩]) (some (.fz (.tup [.at (.str "size"), I n]))) o6 o7 o8 o9 (some (.fz (I (x + n))))) := by
  have e1 := sEq_st (a := "size") (b := "rep")
  rw [decide_eq_false (by decide)] at e1
  have e2 := sEq_st (a := "size") (b := "over")
  rw [decide_eq_false (by decide)] at e2
  have e3 := sEq_st (a := "size") (b := "size")
  have e4 := sEq_st (a := "size") (b := "align")
  rw [decide_eq_false (by decide)] at e4
  have z : rows.length < sizeLine := Nat.lt_of_le_of_lt hr (by decide)
  simp only [g_l_walk_10, g_l_walk_6, g_l_walk_7, g_l_walk_8, g_l_walk_9, R1.pv]
  simp [fnB, plainA, Sl.own, doS, bnd, getV, pur, op2, deref, Sl.pv, lift, sPlus, sSub, sMul, sDiv, sMod, sPow, powC, modC, oor, sAdd, sI, sIc, fnR, outs, seq, nxt, unpS, tgT, tgs, tgN, ifS, tupV, lstV, frzs, frz, sLe, sLt, sGt, sGe, sAnd, toB, atI, ixN, setS, setIx, setFld, putN, orT, andV, andT, isiV, PV.kd, fldV, ownsA, chkI, chkN, chkK, parS, pass1, ix0, ix1, e1, e2, e3, e4, hasO, apM, z]
theorem wk_align {k : Nat} (hk : k ≤ 60) (hx : 0 ≤ x) (bx : Bd 3000 x) (hr : rows.length ≤ 5000) : g_l_walk_10 Fr (wE L x w ps rows (some (.fz (.tup [.at (.str "align"), I (2 ^ k)]))) o6 o7 o8 o9 o10) = .nx (wE L (cl (2 ^ k) x) (w + 1) ps (rows ++ [R1.pv ⟨"align", w, ps, x, cl (2 ^ k) x, I (2 ^ k)⟩]) (some (.fz (.tup [.at (.str "align"), I (2 ^ k)]))) o6 o7 o8 o9 (some (.fz (I (cl (2 ^ k) x))))) := by
  have e1 := sEq_st (a := "align") (b := "rep")
  rw [decide_eq_false (by decide)] at e1
  have e2 := sEq_st (a := "align") (b := "over")
  rw [decide_eq_false (by decide)] at e2
  have e3 := sEq_st (a := "align") (b := "size")
  rw [decide_eq_false (by decide)] at e3
  have e4 := sEq_st (a := "align") (b := "align")
  have z : rows.length < sizeLine := Nat.lt_of_le_of_lt hr (by decide)
  have ce := fun ρ => e_lceil (ρ := ρ) hk hx bx
  generalize cl (2 ^ k) x = y at *
  simp only [g_l_walk_10, g_l_walk_6, g_l_walk_7, g_l_walk_8, g_l_walk_9, R1.pv]
  simp [fnB, plainA, Sl.own, doS, bnd, getV, pur, op2, deref, Sl.pv, lift, sPlus, sSub, sMul, sDiv, sMod, sPow, powC, modC, oor, sAdd, sI, sIc, fnR, outs, seq, nxt, unpS, tgT, tgs, tgN, ifS, tupV, lstV, frzs, frz, sLe, sLt, sGt, sGe, sAnd, toB, atI, ixN, setS, setIx, setFld, putN, orT, andV, andT, isiV, PV.kd, fldV, ownsA, chkI, chkN, chkK, parS, pass1, ix0, ix1, e1, e2, e3, e4, ce, hasO, apM, z]
theorem wk_label {q : PV} (hr : rows.length ≤ 5000) : g_l_walk_10 Fr (wE L x w ps rows (some (.fz (.tup [.at (.str "label"), q]))) o6 o7 o8 o9 o10) = .nx (wE L x (w + 1) ps (rows ++ [R1.pv ⟨"label", w, ps, x, x, q⟩]) (some (.fz (.tup [.at (.str "label"), q]))) o6 o7 o8 o9 (some (.fz (I x)))) := by
  have e1 := sEq_st (a := "label") (b := "rep")
  rw [decide_eq_false (by decide)] at e1
  have e2 := sEq_st (a := "label") (b := "over")
  rw [decide_eq_false (by decide)] at e2
  have e3 := sEq_st (a := "label") (b := "size")
  rw [decide_eq_false (by decide)] at e3
  have e4 := sEq_st (a := "label") (b := "align")
  rw [decide_eq_false (by decide)] at e4
  have z : rows.length < sizeLine := Nat.lt_of_le_of_lt hr (by decide)
  simp only [g_l_walk_10, g_l_walk_6, g_l_walk_7, g_l_walk_8, g_l_walk_9, R1.pv]
  simp [fnB, plainA, Sl.own, doS, bnd, getV, pur, op2, deref, Sl.pv, lift, sPlus, sSub, sMul, sDiv, sMod, sPow, powC, modC, oor, sAdd, sI, sIc, fnR, outs, seq, nxt, unpS, tgT, tgs, tgN, ifS, tupV, lstV, frzs, frz, sLe, sLt, sGt, sGe, sAnd, toB, atI, ixN, setS, setIx, setFld, putN, orT, andV, andT, isiV, PV.kd, fldV, ownsA, chkI, chkN, chkK, parS, pass1, ix0, ix1, e1, e2, e3, e4, hasO, apM, z]
def WK (Fr : Fn) (d : Nat) : Prop := ∀ (t : T) (x w : Int) (ps rows : List PV), t.ok true → t.dp < d → t.len ≤ 900 → 0 ≤ x → Bd 3000 (x + t.vs) → ps.length + t.dp ≤ 100 → rows.length + t.cnt ≤ 5000 →
  ∃ (rs : List R1) (q1 q2 q3 q4 : Option Sl), rs.length = t.cnt ∧ gapS rs = t.go x - x - t.bytes ∧
    Fr [.fz (.lst t.enc), .fz (I x), .fz (I w), .fz (.tup ps), .ow rows] = .ok (.fz (.tup [I (t.go x), I (w + t.len)])) [q1, q2, q3, q4, some (.ow (rows ++ rs.map R1.pv))]
theorem go_up (t : T) (x : Int) (h : t.ok true) : x ≤ t.go x ∧ t.go x ≤ x + t.vs := by
  have := run_up t true x h
  rw [run_go t true x h] at this
  exact this
theorem wk_turns {d : Nat} {b : T} {m : PV} (hF : WK Fr d) (hb : b.ok true) (hd : b.dp < d) (hl : b.len ≤ 900) (hp : ps.length + b.dp + 1 ≤ 100) : ∀ (qs : List PV) (y w0 : Int) (rows : List PV) (o7 : Option Sl), (∀ q ∈ qs, ∃ i : Int, q = I i) → 0 ≤ y → Bd 3000 (y + qs.length * b.vs) → rows.length + qs.length * b.cnt ≤ 5000 →
    ∃ (rs : List R1) (w1 : Int) (p7 : Option Sl), rs.length = qs.length * b.cnt ∧ gapS rs = itr qs.length b.go y - y - qs.length * b.bytes ∧ (w1 = w0 ∧ qs = [] ∨ w1 = w + 1 + b.len) ∧
      forS (tgN 7) (g_l_walk_1 Fr) qs (wE L x w ps rows (some (.fz (.tup [.at (.str "rep"), m, .lst b.enc]))) (some (.fz (.tup [I y, I w0]))) o7 o8 o9 o10) =
        .nx (wE L x w ps (rows ++ rs.map R1.pv) (some (.fz (.tup [.at (.str "rep"), m, .lst b.enc]))) (some (.fz (.tup [I (itr qs.length b.go y), I w1]))) p7 o8 o9 o10)
  | [], y, w0, rows, o7, _, hy, hb', hr => ⟨[], w0, o7, by simp, by simp [gapS, itr], .inl ⟨rfl, rfl⟩, by simp [forS, nxt, itr]⟩
  | q :: qs, y, w0, rows, o7, hq, hy, hb', hr => by
    obtain ⟨i, rfl⟩ := hq q (by simp)
    have vp := vs_nonneg b
    have gu := go_up b y hb
    rw [List.length_cons, Nat.succ_mul] at hr
    have ev : ((qs.length + 1 : Nat) : Int) * b.vs = qs.length * b.vs + b.vs := by rw [show ((qs.length + 1 : Nat) : Int) = (qs.length : Int) + 1 by omega, Int.add_mul, Int.one_mul]
    have eb : ((qs.length + 1 : Nat) : Int) * b.bytes = qs.length * b.bytes + b.bytes := by rw [show ((qs.length + 1 : Nat) : Int) = (qs.length : Int) + 1 by omega, Int.add_mul, Int.one_mul]
    rw [List.length_cons, ev] at hb'
    have np : 0 ≤ (qs.length : Int) * b.vs := Int.mul_nonneg (by omega) vp
    obtain ⟨rs, q1, q2, q3, q4, r1, r2, e⟩ := hF b y (w + 1) (ps ++ [I i]) rows hb hd hl hy (Bd.of (by omega) (by omega) hb') (by simp; omega) (by omega)
    have cv := fun (ρ : B.Env) h4 => callV_5w (ρ := ρ) (j := 4) h4 e
    have pt := plusT (a := ps) (b := [I i]) (small _ (by simp; omega))
    have e1 : g_l_walk_1 Fr (wE L x w ps rows (some (.fz (.tup [.at (.str "rep"), m, .lst b.enc]))) (some (.fz (.tup [I y, I w0]))) (some (.fz (I i))) o8 o9 o10) = .nx (wE L x w ps (rows ++ rs.map R1.pv) (some (.fz (.tup [.at (.str "rep"), m, .lst b.enc]))) (some (.fz (.tup [I (b.go y), I (w + 1 + b.len)]))) (some (.fz (I i))) o8 o9 o10) := by
      simp only [g_l_walk_1]
      simp [fnB, plainA, Sl.own, doS, bnd, getV, pur, op2, deref, Sl.pv, lift, sPlus, sSub, sMul, sDiv, sMod, sPow, powC, modC, oor, sAdd, sI, sIc, fnR, outs, seq, nxt, unpS, tgT, tgs, tgN, ifS, tupV, lstV, frzs, frz, sLe, sLt, sGt, sGe, sAnd, toB, atI, ixN, setS, setIx, setFld, putN, orT, andV, andT, isiV, PV.kd, fldV, ownsA, chkI, chkN, chkK, parS, pass1, ix0, ix1, ix2, pt, cv]
    obtain ⟨rs2, w2, p7, r3, r4, r5, e2⟩ := wk_turns hF hb hd hl hp qs (b.go y) (w + 1 + b.len) (rows ++ rs.map R1.pv) (some (.fz (I i))) (fun z hz => hq z (by simp [hz])) (by omega) (Bd.of (by omega) (by omega) hb') (by rw [List.length_append, List.length_map]; omega)
    refine ⟨rs ++ rs2, w2, p7, by rw [List.length_append, List.length_cons, Nat.succ_mul]; omega, ?_, .inr ?_, ?_⟩
    · rw [gapS_app, List.length_cons, eb, r2, r4]
      simp only [itr]
      omega
    · rcases r5 with ⟨z, _⟩ | z
      · exact z
      · exact z
    · rw [forS_nx (ρ1 := wE L x w ps rows (some (.fz (.tup [.at (.str "rep"), m, .lst b.enc]))) (some (.fz (.tup [I y, I w0]))) (some (.fz (I i))) o8 o9 o10) rfl e1, e2, List.map_append, List.append_assoc]
      rfl
def WL (Fr : Fn) (L : PV) (ps : List PV) (d : Nat) (t : T) : Prop := ∀ (x w : Int) (rows : List PV) (o5 o6 o7 o8 o9 o10 : Option Sl), t.ok true → t.dp ≤ d → t.len ≤ 900 → 0 ≤ x → Bd 3000 (x + t.vs) → ps.length + t.dp ≤ 100 → rows.length + t.cnt ≤ 5000 →
    ∃ (rs : List R1) (p5 p6 p7 p8 p9 p10 : Option Sl), rs.length = t.cnt ∧ gapS rs = t.go x - x - t.bytes ∧ forS (tgN 5) (g_l_walk_10 Fr) t.enc (wE L x w ps rows o5 o6 o7 o8 o9 o10) = .nx (wE L (t.go x) (w + t.len) ps (rows ++ rs.map R1.pv) p5 p6 p7 p8 p9 p10)
theorem wv_nil {d : Nat} : WL Fr L ps d .nil := fun x w rows o5 o6 o7 o8 o9 o10 hk hd hl hx hb hp hr => ⟨[], o5, o6, o7, o8, o9, o10, rfl, by simp [gapS, T.go, T.bytes], by simp [T.enc, T.go, T.len, forS, nxt]⟩
theorem wv_size {d : Nat} {n : Nat} {r : T} (ih : WL Fr L ps d r) : WL Fr L ps d (.size n r) := by
  intro x w rows o5 o6 o7 o8 o9 o10 hk hd hl hx hb hp hr
  simp only [T.ok] at hk; simp only [T.dp] at hd hp; simp only [T.len] at hl; simp only [T.cnt] at hr; simp only [T.vs, Q62] at hb
  have vp := vs_nonneg r
  obtain ⟨rs, p5, p6, p7, p8, p9, p10, r1, r2, e⟩ := ih (x + n) (w + 1) (rows ++ [R1.pv ⟨"size", w, ps, x, x + n, I n⟩]) (some (.fz (.tup [.at (.str "size"), I n]))) o6 o7 o8 o9 (some (.fz (I (x + n)))) hk.2 hd (by omega) (by omega) (Bd.of (by omega) (by omega) hb) hp (by simp; omega)
  refine ⟨⟨"size", w, ps, x, x + n, I n⟩ :: rs, p5, p6, p7, p8, p9, p10, by simp [T.cnt, r1], ?_, ?_⟩
  · simp only [gapS, r2, T.go, T.bytes]
    rw [if_neg (by decide)]
    omega
  · rw [T.enc, forS_nx (ρ1 := wE L x w ps rows (some (.fz (.tup [.at (.str "size"), I n]))) o6 o7 o8 o9 o10) rfl (wk_size (by omega)), e]
    have ew : w + 1 + (r.len : Int) = w + ((r.len + 1 : Nat) : Int) := by omega
    simp only [T.go, T.len, ew, List.map_cons, List.append_assoc, List.cons_append, List.nil_append]
theorem wv_align {d : Nat} {k : Nat} {r : T} (ih : WL Fr L ps d r) : WL Fr L ps d (.align k r) := by
  intro x w rows o5 o6 o7 o8 o9 o10 hk hd hl hx hb hp hr
  simp only [T.ok] at hk; simp only [T.dp] at hd hp; simp only [T.len] at hl; simp only [T.cnt] at hr; simp only [T.vs, Q62] at hb
  have vp := vs_nonneg r
  have pw : Pw ((2 : Int) ^ k) := ⟨k, hk.2.1, rfl⟩
  have g1 := cl_ge (x := x) pw.pos
  have g2 := cl_lt (x := x) pw.pos
  have g3 := pw.le60
  obtain ⟨rs, p5, p6, p7, p8, p9, p10, r1, r2, e⟩ := ih (cl (2 ^ k) x) (w + 1) (rows ++ [R1.pv ⟨"align", w, ps, x, cl (2 ^ k) x, I (2 ^ k)⟩]) (some (.fz (.tup [.at (.str "align"), I (2 ^ k)]))) o6 o7 o8 o9 (some (.fz (I (cl (2 ^ k) x)))) hk.2.2 hd (by omega) (by omega) (Bd.of (by omega) (by omega) hb) hp (by simp; omega)
  refine ⟨⟨"align", w, ps, x, cl (2 ^ k) x, I (2 ^ k)⟩ :: rs, p5, p6, p7, p8, p9, p10, by simp [T.cnt, r1], ?_, ?_⟩
  · simp only [gapS, r2, T.go, T.bytes]
    rw [if_pos trivial]
    omega
  · rw [T.enc, forS_nx (ρ1 := wE L x w ps rows (some (.fz (.tup [.at (.str "align"), I (2 ^ k)]))) o6 o7 o8 o9 o10) rfl (wk_align hk.2.1 hx (Bd.of hx (by omega) hb) (by omega)), e]
    have ew : w + 1 + (r.len : Int) = w + ((r.len + 1 : Nat) : Int) := by omega
    simp only [T.go, T.len, ew, List.map_cons, List.append_assoc, List.cons_append, List.nil_append]
theorem wv_label {d : Nat} {s : List Nat} {r : T} (ih : WL Fr L ps d r) : WL Fr L ps d (.label s r) := by
  intro x w rows o5 o6 o7 o8 o9 o10 hk hd hl hx hb hp hr
  simp only [T.ok] at hk; simp only [T.dp] at hd hp; simp only [T.len] at hl; simp only [T.cnt] at hr; simp only [T.vs, Q62] at hb
  have vp := vs_nonneg r
  obtain ⟨rs, p5, p6, p7, p8, p9, p10, r1, r2, e⟩ := ih x (w + 1) (rows ++ [R1.pv ⟨"label", w, ps, x, x, tx s⟩]) (some (.fz (.tup [.at (.str "label"), tx s]))) o6 o7 o8 o9 (some (.fz (I x))) hk.2 hd (by omega) hx (Bd.of (by omega) (by omega) hb) hp (by simp; omega)
  refine ⟨⟨"label", w, ps, x, x, tx s⟩ :: rs, p5, p6, p7, p8, p9, p10, by simp [T.cnt, r1], ?_, ?_⟩
  · simp only [gapS, r2, T.go, T.bytes]
    rw [if_neg (by decide)]
    omega
  · rw [T.enc, forS_nx (ρ1 := wE L x w ps rows (some (.fz (.tup [.at (.str "label"), tx s]))) o6 o7 o8 o9 o10) rfl (wk_label (by omega)), e]
    have ew : w + 1 + (r.len : Int) = w + ((r.len + 1 : Nat) : Int) := by omega
    simp only [T.go, T.len, ew, List.map_cons, List.append_assoc, List.cons_append, List.nil_append]
theorem doS_for {a : M (List EV)} {E : B.Env} {i : Int} {tg : TgS} {body : MS} (e : a E = .ok [.fz (I i)] E) (sm : smallI i = true) : (doS a fun xs => forR1_ tg body xs) E = forS tg body (rngL 0 i) E := by
  simp only [doS, e, forR1_, sm, if_true]
theorem wk_rep {t : Nat} {y w1 : Int} {rp : List PV} {y7 : Option Sl} {bs : List PV} (sm : smallI t = true)
    (e1 : forS (tgN 7) (g_l_walk_1 Fr) (rngL 0 t) (wE L x w ps rows (some (.fz (.tup [.at (.str "rep"), I t, .lst bs]))) (some (.fz (.tup [I x, I w]))) o7 o8 o9 o10) = .nx (wE L x w ps rp (some (.fz (.tup [.at (.str "rep"), I t, .lst bs]))) (some (.fz (.tup [I y, I w1]))) y7 o8 o9 o10)) :
    g_l_walk_10 Fr (wE L x w ps rows (some (.fz (.tup [.at (.str "rep"), I t, .lst bs]))) o6 o7 o8 o9 o10) = .nx (wE L y (w1 + 1) ps rp (some (.fz (.tup [.at (.str "rep"), I t, .lst bs]))) (some (.fz (.tup [I y, I w1]))) y7 o8 o9 o10) := by
  have q1 := sEq_st (a := "rep") (b := "rep")
  have t1 : (bnd (bnd (getV 5) fun x => bnd (pur (.fz (.at (.int 0)))) fun y => op2 sIx x y) fun x => bnd (pur (.fz (.at (.str "rep")))) fun y => bnd (op2 sEq x y) toB) (wE L x w ps rows (some (.fz (.tup [.at (.str "rep"), I t, .lst bs]))) o6 o7 o8 o9 o10) = .ok true (wE L x w ps rows (some (.fz (.tup [.at (.str "rep"), I t, .lst bs]))) o6 o7 o8 o9 o10) := by
    simp [bnd, getV, pur, op2, deref, lift, ix0, q1, toB]
  rw [g_l_walk_10, ifS_t t1]
  refine seq_nx (ρ1 := wE L x w ps rows (some (.fz (.tup [.at (.str "rep"), I t, .lst bs]))) (some (.fz (.tup [I x, I w]))) o7 o8 o9 o10) rfl (seq_nx (ρ1 := wE L x w ps rp (some (.fz (.tup [.at (.str "rep"), I t, .lst bs]))) (some (.fz (.tup [I y, I w1]))) y7 o8 o9 o10) ?_ ?_)
  · have e : (bnd (bnd (getV 5) fun x => bnd (pur (.fz (.at (.int 1)))) fun y => op2 sIx x y) fun x => bnd (pur []) fun xs => pur (x :: xs)) (wE L x w ps rows (some (.fz (.tup [.at (.str "rep"), I t, .lst bs]))) (some (.fz (.tup [I x, I w]))) o7 o8 o9 o10) = .ok [.fz (I t)] (wE L x w ps rows (some (.fz (.tup [.at (.str "rep"), I t, .lst bs]))) (some (.fz (.tup [I x, I w]))) o7 o8 o9 o10) := by
      simp [bnd, getV, pur, op2, deref, lift, ix1]
    rw [doS_for e sm]
    exact e1
  · rfl
theorem itr_up {b : T} (h : b.ok true) (x : Int) : ∀ n : Nat, x ≤ itr n b.go x ∧ itr n b.go x ≤ x + n * b.vs
  | 0 => by simp [itr]
  | n + 1 => by
    have ih := itr_up h x n
    rw [itr_succ]
    have := go_up b (itr n b.go x) h
    have ev : ((n + 1 : Nat) : Int) * b.vs = n * b.vs + b.vs := by rw [show ((n + 1 : Nat) : Int) = (n : Int) + 1 by omega, Int.add_mul, Int.one_mul]
    rw [ev]
    omega
theorem vs_rep {t : Nat} {b r : T} {x z : Int} (hx : 0 ≤ x) (hz : z ≤ x + t * b.vs + r.vs) (z0 : 0 ≤ z) (hb : Bd 3000 (x + (T.rep t b r).vs)) : Bd 3000 z := by
  have vb := vs_nonneg b
  simp only [T.vs] at hb
  have tv : (t : Int) * b.vs ≤ (t : Int) * (b.vs + Q62) := Int.mul_le_mul_of_nonneg_left (by simp only [Q62]; omega) (by omega)
  have q : 0 ≤ Q62 := by decide
  exact Bd.of z0 (by omega) hb
theorem wv_rep {d : Nat} {t : Nat} {b r : T} (hF : WK Fr d) (ih : WL Fr L ps d r) : WL Fr L ps d (.rep t b r) := by
  intro x w rows q5 q6 q7 q8 q9 q10 hk hd hl hx hb hp hr
  have hk' := hk
  simp only [T.ok] at hk'
  obtain ⟨h2, h30, hnil, kb, kr⟩ := hk'
  have dd : b.dp + 1 ≤ d ∧ r.dp ≤ d := by simp only [T.dp] at hd; omega
  have dp' : ps.length + (b.dp + 1) ≤ 100 ∧ ps.length + r.dp ≤ 100 := by simp only [T.dp] at hp; omega
  have ll : b.len ≤ 900 ∧ r.len ≤ 900 := by simp only [T.len] at hl; omega
  have rr : rows.length + t * b.cnt + r.cnt ≤ 5000 := by simp only [T.cnt] at hr; omega
  clear hk hd hl hp hr
  have vp := vs_nonneg r
  have vb := vs_nonneg b
  have cp := cnt_pos b kb hnil
  have t5 : t ≤ 5000 := by
    have := Nat.mul_le_mul_left t cp
    omega
  have sm : smallI (t : Int) = true := by unfold smallI; simp; omega
  have ln : (rngL 0 (t : Int)).length = t := by simp [rngL]
  have tp : 0 ≤ (t : Int) * b.vs := Int.mul_nonneg (by omega) vb
  obtain ⟨rs, w1, y7, r1, r2, r3, e1⟩ := wk_turns (L := L) (x := x) (w := w) (ps := ps) (m := I t) (o8 := q8) (o9 := q9) (o10 := q10) hF kb (by omega) ll.1 (by omega) (rngL 0 (t : Int)) x w rows q7 (fun q hq => by
    simp only [rngL, List.mem_map] at hq
    obtain ⟨i, _, e⟩ := hq
    exact ⟨_, e.symm⟩) hx (by rw [ln]; exact vs_rep hx (by omega) (by omega) hb) (by rw [ln]; omega)
  rw [ln] at r1 r2 e1
  have hw1 : w1 = w + 1 + b.len := by
    rcases r3 with ⟨_, z⟩ | z
    · have := congrArg List.length z
      rw [ln] at this
      simp at this
      omega
    · exact z
  clear r3 ln
  have iu := itr_up kb x t
  have e0 := wk_rep (o6 := q6) sm e1
  clear e1
  generalize hy : itr t b.go x = y at *
  obtain ⟨rs2, p5, p6, p7, p8, p9, p10, r4, r5, e2⟩ := ih y (w1 + 1) (rows ++ rs.map R1.pv) (some (.fz (.tup [.at (.str "rep"), I t, .lst b.enc]))) (some (.fz (.tup [I y, I w1]))) y7 q8 q9 q10 kr dd.2 ll.2 (by omega) (vs_rep hx (by omega) (by omega) hb) dp'.2 (by rw [List.length_append, List.length_map]; omega)
  refine ⟨rs ++ rs2, p5, p6, p7, p8, p9, p10, by rw [List.length_append]; simp only [T.cnt]; omega, ?_, ?_⟩
  · rw [gapS_app, r2, r5]
    simp only [T.go, T.bytes, hy]
    omega
  · rw [T.enc, forS_nx (ρ1 := wE L x w ps rows (some (.fz (.tup [.at (.str "rep"), I t, .lst b.enc]))) q6 q7 q8 q9 q10) rfl e0, e2, hw1]
    have ew : w + 1 + (b.len : Int) + 1 + (r.len : Int) = w + ((b.len + r.len + 2 : Nat) : Int) := by omega
    simp only [T.go, T.len, ew, hy, List.map_append, List.append_assoc]
theorem wv_both {d : Nat} {p q r : T} : WL Fr L ps d (.both p q r) := by
  intro x w rows o5 o6 o7 o8 o9 o10 hk hd hl hx hb hp hr
  simp [T.ok] at hk
theorem wk_loop {d : Nat} (hF : WK Fr d) (L : PV) : ∀ t : T, WL Fr L ps d t
  | .nil => wv_nil
  | .size _ r => wv_size (wk_loop hF L r)
  | .align _ r => wv_align (wk_loop hF L r)
  | .label _ r => wv_label (wk_loop hF L r)
  | .rep _ _ r => wv_rep hF (wk_loop hF L r)
  | .both _ _ _ => wv_both
theorem wk_step {d : Nat} (hF : WK Fr d) : WK (fnB 5 11 [4] (g_l_walk Fr)) (d + 1) := by
  intro t x w ps rows hk hd hl hx hb hp hr
  obtain ⟨rs, p5, p6, p7, p8, p9, p10, r1, r2, e⟩ := wk_loop (ps := ps) hF (.lst t.enc) t x w rows none none none none none none hk (by omega) hl hx hb hp hr
  refine ⟨rs, some (.fz (.lst t.enc)), some (.fz (I x)), some (.fz (I w)), some (.fz (.tup ps)), r1, r2, ?_⟩
  have z := small t.enc.length (by have := T.enc_len t; omega)
  generalize t.go x = y at *
  generalize rs.map R1.pv = rp at *
  generalize (w + (t.len : Int)) = w2 at *
  generalize t.enc = te at *
  simp only [g_l_walk]
  simp [fnB, plainA, Sl.own, doS, bnd, getV, pur, op2, deref, Sl.pv, lift, sPlus, sSub, sMul, sDiv, sMod, sPow, powC, modC, oor, sAdd, sI, sIc, fnR, outs, seq, nxt, unpS, tgT, tgs, tgN, ifS, tupV, lstV, frzs, frz, sIx, sLe, sLt, sGt, sGe, sAnd, toB, atI, ixN, setS, setIx, setFld, putN, orT, andV, andT, isiV, PV.kd, fldV, ownsA, chkI, chkN, chkK, parS, pass1, forM_, itemsL, z, e, Sl.own, ownsA]
theorem wk_all : ∀ n : Nat, WK (recB 5 11 [4] g_l_walk n) n
  | 0 => fun t x w ps rows hk hd => absurd hd (by omega)
  | n + 1 => wk_step (wk_all n)
end
end L

set_option Elab.async false
set_option linter.all false
set_option maxRecDepth 100000
set_option maxHeartbeats 4000000
namespace L
open PySem L2 B
/-! ### the rows, the padding word by word -/
section
variable {ρ : B.Env} {t : T} {x : Int}
theorem e_lrows (hk : t.ok true) (hd : t.dp ≤ 12) (hl : t.len ≤ 900) (hx : 0 ≤ x) (hb : Bd 3000 (x + t.vs)) (hc : t.cnt ≤ 5000) : ∃ rs : List R1, rs.length = t.cnt ∧ gapS rs = t.go x - x - t.bytes ∧ ∀ ρ, bk0 (F_l_rows [.fz (.lst t.enc), .fz (I x)]) ρ = .ok (.nw (.ow (rs.map R1.pv))) ρ := by
  obtain ⟨rs, q1, q2, q3, q4, r1, r2, e⟩ := wk_all 16 t x 0 [] [] hk (by omega) hl hx hb (by simp; omega) (by simpa using hc)
  refine ⟨rs, r1, r2, fun ρ => ?_⟩
  have e' : F_l_walk [.fz (.lst t.enc), .fz (I x), .fz (I 0), .fz (.tup []), .ow []] = _ := e
  rw [List.nil_append] at e'
  have cv := fun (ρ : B.Env) hj => callV_5w (ρ := ρ) (j := 2) hj e'
  generalize rs.map R1.pv = rp at *
  generalize t.go x = y at *
  generalize t.enc = te at *
  simp only [F_l_rows, g_l_rows]
  simp [fnB, plainA, Sl.own, doS, bnd, getV, pur, op2, deref, Sl.pv, lift, sPlus, sSub, sMul, sDiv, sMod, sPow, powC, modC, oor, sAdd, sI, sIc, fnR, outs, seq, nxt, unpS, tgT, tgs, tgN, ifS, tupV, lstV, frzs, frz, sIx, sLe, sLt, sGt, sGe, sAnd, toB, atI, ixN, setS, setIx, setFld, putN, orT, andV, andT, isiV, PV.kd, fldV, ownsA, chkI, chkN, chkK, parS, pass1, cv]
def alg (r : R1) : Bool := decide (r.kd = ("align" : Str))
def R1.d (r : R1) : Int := r.b - r.a
def keepG (p : PV) : Option Int := match p with
  | .tup [.at (.str k), _, _, .at (.int a), .at (.int b), _] => if k = "align" then some (b - a) else none
  | _ => none
abbrev tgR : TgS := tgT [(tgN 2), (tgN 3), (tgN 4), (tgN 5), (tgN 6), (tgN 7)]
theorem gap_lc {o0 o1 : Option Sl} : ∀ (rs : List R1) (acc : List Int), lcF tgR [2, 3, 4, 5, 6, 7] t_l_gaps_1 x_l_gaps_2 (rs.map R1.pv) (acc.map I) [o0, o1, none, none, none, none, none, none] = .ok ((acc ++ (rs.filter alg).map R1.d).map I) [o0, o1, none, none, none, none, none, none]
  | [], acc => by simp [lcF, pur]
  | r :: rs, acc => by
    have ih := fun acc => gap_lc (o0 := o0) (o1 := o1) rs acc
    have se := sEq_st (a := r.kd) (b := "align")
    rw [List.map_cons, lcF]
    have e1 : tgR r.pv [o0, o1, none, none, none, none, none, none] = some [o0, o1, some (.fz (.at (.str r.kd))), some (.fz (I r.w)), some (.fz (.tup r.ps)), some (.fz (I r.a)), some (.fz (I r.b)), some (.fz r.q)] := rfl
    by_cases h : r.kd = "align"
    · rw [decide_eq_true h] at se
      have e3 : lcTurn tgR t_l_gaps_1 x_l_gaps_2 r.pv [o0, o1, none, none, none, none, none, none] = .ok (some (I (r.b - r.a))) [o0, o1, some (.fz (.at (.str r.kd))), some (.fz (I r.w)), some (.fz (.tup r.ps)), some (.fz (I r.a)), some (.fz (I r.b)), some (.fz r.q)] := by
        unfold lcTurn
        rw [e1]
        simp [t_l_gaps_1, x_l_gaps_2, bnd, getV, pur, op2, deref, lift, se, toB, sSub, sI, frz]
      have w : wipeE [o0, o1, some (.fz (.at (.str r.kd))), some (.fz (I r.w)), some (.fz (.tup r.ps)), some (.fz (I r.a)), some (.fz (I r.b)), some (.fz r.q)] [2, 3, 4, 5, 6, 7] = [o0, o1, none, none, none, none, none, none] := rfl
      have em : acc.map I ++ (some (I (r.b - r.a))).toList = (acc ++ [r.b - r.a]).map I := by simp
      simp only [e3, w, em]
      rw [ih, List.filter_cons, if_pos (show alg r = true from decide_eq_true h)]
      simp [R1.d]
    · rw [decide_eq_false h] at se
      have e3 : lcTurn tgR t_l_gaps_1 x_l_gaps_2 r.pv [o0, o1, none, none, none, none, none, none] = .ok none [o0, o1, some (.fz (.at (.str r.kd))), some (.fz (I r.w)), some (.fz (.tup r.ps)), some (.fz (I r.a)), some (.fz (I r.b)), some (.fz r.q)] := by
        unfold lcTurn
        rw [e1]
        simp [t_l_gaps_1, bnd, getV, pur, op2, deref, lift, se, toB]
      have w : wipeE [o0, o1, some (.fz (.at (.str r.kd))), some (.fz (I r.w)), some (.fz (.tup r.ps)), some (.fz (I r.a)), some (.fz (I r.b)), some (.fz r.q)] [2, 3, 4, 5, 6, 7] = [o0, o1, none, none, none, none, none, none] := rfl
      have em : acc.map I ++ (none : Option PV).toList = acc.map I := by simp
      simp only [e3, w, em]
      rw [ih, List.filter_cons, if_neg (show ¬ alg r = true by simpa [alg] using h)]
theorem gap_sum : ∀ rs : List R1, ((rs.filter alg).map R1.d).sum = gapS rs
  | [] => rfl
  | r :: rs => by
    rw [List.filter_cons]
    by_cases h : r.kd = "align"
    · rw [if_pos (show alg r = true from decide_eq_true h)]
      simp only [R1.d, List.map_cons, List.sum_cons, gapS, if_pos h, gap_sum rs]
    · rw [if_neg (show ¬ alg r = true by simpa [alg] using h)]
      simp only [gapS, if_neg h, gap_sum rs]
      omega
theorem e_lgaps (hk : t.ok true) (hd : t.dp ≤ 12) (hl : t.len ≤ 900) (hx : 0 ≤ x) (hb : Bd 3000 (x + t.vs)) (hc : t.cnt ≤ 5000) : bk0 (F_l_gaps [.fz (.lst t.enc), .fz (I x)]) ρ = .ok (.fz (I (t.go x - x - t.bytes))) ρ := by
  obtain ⟨rs, r1, r2, e⟩ := e_lrows hk hd hl hx hb hc
  have g := gap_lc (o0 := some (.fz (.lst t.enc))) (o1 := some (.fz (I x))) rs []
  rw [List.nil_append] at g
  have z := small (rs.map R1.pv).length (by rw [List.length_map]; omega)
  have li := liI_ints ((rs.filter alg).map R1.d)
  have gs := gap_sum rs
  rw [r2] at gs
  have lc : lcN tgR [2, 3, 4, 5, 6, 7] t_l_gaps_1 x_l_gaps_2 (rs.map R1.pv) [some (.fz (.lst t.enc)), some (.fz (I x)), none, none, none, none, none, none] = .ok (.nw (.ow (((rs.filter alg).map R1.d).map I))) [some (.fz (.lst t.enc)), some (.fz (I x)), none, none, none, none, none, none] := by
    have w : wipeE [some (.fz (.lst t.enc)), some (.fz (I x)), none, none, none, none, none, none] [2, 3, 4, 5, 6, 7] = [some (.fz (.lst t.enc)), some (.fz (I x)), none, none, none, none, none, none] := rfl
    unfold lcN
    rw [if_pos z, w]
    have g' := g
    simp only [List.map_nil] at g'
    rw [g']
  generalize (rs.filter alg).map R1.d = ds at *
  generalize rs.map R1.pv = rp at *
  generalize t.go x - x - t.bytes = y at *
  generalize t.enc = te at *
  simp only [F_l_gaps, g_l_gaps]
  simp [fnB, plainA, Sl.own, doS, bnd, getV, pur, op2, deref, Sl.pv, lift, sPlus, sSub, sMul, sDiv, sMod, sPow, powC, modC, oor, sAdd, sI, sIc, fnR, outs, seq, nxt, unpS, tgT, tgs, ifS, tupV, lstV, frzs, frz, sIx, sLe, sLt, sGt, sGe, sAnd, toB, atI, ixN, setS, setIx, setFld, putN, orT, andV, andT, isiV, PV.kd, fldV, ownsA, chkI, chkN, chkK, parS, pass1, e, lcV, itemsL, lc, bltV, derefs, sSum, li, gs]
end
end L

set_option Elab.async false
set_option linter.all false
set_option maxRecDepth 100000
set_option maxHeartbeats 4000000
namespace L
open PySem L2 B
/-! ### the paddings of a period -/
theorem exps_low {K : Nat} : ∀ t : T, t.low K → ∀ k ∈ t.exps, k ≤ K
  | .nil, _, k, hk => by simp [T.exps] at hk
  | .size n r, h, k, hk => exps_low r h k hk
  | .align j r, h, k, hk => by
    rcases List.mem_cons.mp hk with z | z
    · rw [z]; exact h.1
    · exact exps_low r h.2 k z
  | .label s r, h, k, hk => exps_low r h k hk
  | .rep t b r, h, k, hk => by
    rcases List.mem_append.mp hk with z | z
    · exact exps_low b h.1 k z
    · exact exps_low r h.2 k z
  | .both x y r, h, k, hk => by
    simp only [T.exps, List.mem_append] at hk
    rcases hk with (z | z) | z
    · exact exps_low x h.1 k z
    · exact exps_low y h.2.1 k z
    · exact exps_low r h.2.2 k z
theorem p64 {k : Nat} (h : k ≤ 6) : (2 : Int) ^ k ≤ 64 := by
  have : ∀ i : Fin 7, (2 : Int) ^ (i : Nat) ≤ 64 := by decide
  exact this ⟨k, by omega⟩
theorem low_al {K : Nat} {t : T} (h : t.low K) (hK : K ≤ 6) : t.al ≤ 64 := by
  unfold T.al
  have q := (maxI_mem (t.exps.map fun k => (2 : Int) ^ k) 1).1
  rcases List.mem_cons.mp q with z | z
  · rw [z]; decide
  · obtain ⟨k, hk, e⟩ := List.mem_map.mp z
    rw [← e]
    exact p64 (Nat.le_trans (exps_low t h k hk) hK)
theorem pd_itr {b : T} {n : Nat} (h : ∀ x, 0 ≤ b.go x - x - b.bytes ∧ b.go x - x - b.bytes ≤ 64 * b.cnt) (x : Int) : ∀ n : Nat, 0 ≤ itr n b.go x - x - n * b.bytes ∧ itr n b.go x - x - n * b.bytes ≤ 64 * ((n * b.cnt : Nat) : Int)
  | 0 => by simp [itr]
  | n + 1 => by
    have ih := pd_itr (n := n) h x n
    have q := h (itr n b.go x)
    rw [itr_succ]
    have ev : ((n + 1 : Nat) : Int) * b.bytes = n * b.bytes + b.bytes := by rw [show ((n + 1 : Nat) : Int) = (n : Int) + 1 by omega, Int.add_mul, Int.one_mul]
    have ec : (((n + 1) * b.cnt : Nat) : Int) = ((n * b.cnt : Nat) : Int) + b.cnt := by rw [Nat.succ_mul]; exact Int.natCast_add _ _
    rw [ev, ec]
    omega
theorem pd_bd : ∀ t : T, t.ok true → t.low 6 → ∀ x, 0 ≤ t.go x - x - t.bytes ∧ t.go x - x - t.bytes ≤ 64 * t.cnt
  | .nil, _, _, x => by simp [T.go, T.bytes, T.cnt]
  | .size n r, h, l, x => by
    have := pd_bd r h.2 l (x + n)
    simp only [T.go, T.bytes, T.cnt]
    omega
  | .align k r, h, l, x => by
    have := pd_bd r h.2.2 l.2 (cl (2 ^ k) x)
    have pw : Pw ((2 : Int) ^ k) := ⟨k, h.2.1, rfl⟩
    have g1 := cl_ge (x := x) pw.pos
    have g2 := cl_lt (x := x) pw.pos
    have g3 := p64 l.1
    simp only [T.go, T.bytes, T.cnt]
    omega
  | .label s r, h, l, x => by
    have := pd_bd r h.2 l x
    simp only [T.go, T.bytes, T.cnt]
    omega
  | .rep t b r, h, l, x => by
    have q := pd_itr (n := t) (pd_bd b h.2.2.2.1 l.1) x t
    have := pd_bd r h.2.2.2.2 l.2 (itr t b.go x)
    simp only [T.go, T.bytes, T.cnt]
    rw [Int.natCast_add]
    omega
  | .both x y r, h, l, z => by simp [T.ok] at h
/-- a plain layout whose period is short -/
structure Rt (t : T) : Prop where
  lay : Lay t
  ok : t.ok true
  cnt : t.cnt ≤ 5000
  low : t.low 6
theorem go_end {t : T} (k : t.ok true) {x : Int} : (t.trip one).end_ x = t.go x := by
  rw [trip_end t 0 one x k one_v, one_end]
def T.pd (t : T) (s : Int) : Int := t.go s - s - t.bytes
section
variable {t : T} (D : Rt t)
include D
theorem Rt.al : t.al ≤ 64 := low_al D.low (by decide)
theorem Rt.m : (t.trip one).m = t.al := trip_al D.ok
theorem Rt.pos : 0 < t.al := by rw [← D.m]; exact D.lay.wf.pw.pos
theorem Rt.pd_eq (s : Int) : t.pd s = t.least + (cl t.al (s + (t.trip one).b) - (s + (t.trip one).b)) := by
  have ge := go_end (x := s) D.ok
  have gx : t.go s = cl (t.trip one).m (s + (t.trip one).b) + (t.trip one).a := ge.symm
  rw [D.m] at gx
  unfold T.pd T.least
  rw [gx]
  omega
theorem Rt.lo (s : Int) : t.least ≤ t.pd s ∧ t.pd s ≤ t.least + t.al - 1 := by
  rw [D.pd_eq]
  have h1 := @cl_ge t.al (s + (t.trip one).b) D.pos
  have h2 := @cl_lt t.al (s + (t.trip one).b) D.pos
  omega
theorem dvd_small {m i : Int} (hm : 0 < m) (h : m ∣ i) (h1 : -m < i) (h2 : i < m) : i = 0 := by
  obtain ⟨q, rfl⟩ := h
  by_cases a : 1 ≤ q
  · have := Int.mul_le_mul_of_nonneg_left a (Int.le_of_lt hm); omega
  · by_cases b : q ≤ -1
    · have := Int.mul_le_mul_of_nonneg_left b (Int.le_of_lt hm); omega
    · have : q = 0 := by omega
      rw [this, Int.mul_zero]
theorem Rt.same {s z : Int} (h : t.pd s = t.pd z) : t.al ∣ s - z := by
  rw [D.pd_eq, D.pd_eq] at h
  have d1 := @cl_dvd t.al (s + (t.trip one).b)
  have d2 := @cl_dvd t.al (z + (t.trip one).b)
  have d := Int.dvd_sub d1 d2
  have e : s - z = cl t.al (s + (t.trip one).b) - cl t.al (z + (t.trip one).b) := by omega
  rw [e]
  exact d
theorem Rt.back {s z : Int} (h : t.al ∣ s - z) : t.pd s = t.pd z := by
  rw [D.pd_eq, D.pd_eq]
  have e : s + (t.trip one).b = z + (t.trip one).b + (s - z) := by omega
  rw [e, cl_add D.pos h]
  omega
theorem Rt.hit {y : Int} (h1 : t.least ≤ y) (h2 : y ≤ t.least + t.al - 1) : ∃ s : Int, 0 ≤ s ∧ s < t.al ∧ t.pd s = y ∧ s = (t.least - y - (t.trip one).b) % t.al := by
  refine ⟨(t.least - y - (t.trip one).b) % t.al, Int.emod_nonneg _ (Int.ne_of_gt D.pos), Int.emod_lt_of_pos _ D.pos, ?_, rfl⟩
  rw [D.pd_eq]
  have q := Int.emod_add_mul_ediv (t.least - y - (t.trip one).b) t.al
  have c : cl t.al ((t.least - y - (t.trip one).b) % t.al + (t.trip one).b) = (t.least - y - (t.trip one).b) % t.al + (t.trip one).b + (y - t.least) := by
    refine cl_eq D.pos ⟨-((t.least - y - (t.trip one).b) / t.al), ?_⟩ (by omega) (by omega)
    rw [Int.mul_neg]
    omega
  rw [c]
  omega
/-- the starts that have this padding -/
theorem Rt.arc {y s : Int} (h1 : t.least ≤ y) (h2 : y ≤ t.least + t.al - 1) : (s - (t.least - y - (t.trip one).b) % t.al) % t.al < 1 ↔ t.pd s = y := by
  obtain ⟨z, z0, z1, e, ez⟩ := D.hit h1 h2
  rw [← ez]
  have m0 := Int.emod_nonneg (s - z) (Int.ne_of_gt D.pos)
  constructor
  · intro h
    have h0 : (s - z) % t.al = 0 := by omega
    rw [← e]
    exact D.back (Int.dvd_of_emod_eq_zero h0)
  · intro h
    rw [← e] at h
    rw [Int.emod_eq_zero_of_dvd (D.same h)]
    decide
end
def T.rows (t : T) : List Int := (List.range t.al.toNat).map fun (s : Nat) => t.pd (s : Int)
section
variable {t : T} (D : Rt t)
include D
theorem Rt.len : t.rows.length = t.al.toNat := by unfold T.rows; rw [List.length_map, List.length_range]
theorem Rt.mem {y : Int} : y ∈ t.rows ↔ t.least ≤ y ∧ y ≤ t.least + t.al - 1 := by
  unfold T.rows
  rw [List.mem_map]
  constructor
  · rintro ⟨s, _, rfl⟩
    exact D.lo _
  · rintro ⟨h1, h2⟩
    obtain ⟨s, s0, s1, e, _⟩ := D.hit h1 h2
    refine ⟨s.toNat, List.mem_range.mpr (by omega), ?_⟩
    rw [show ((s.toNat : Nat) : Int) = s by omega]
    exact e
theorem Rt.nodup : t.rows.Nodup := by
  unfold T.rows
  rw [List.nodup_iff_pairwise_ne, List.pairwise_map]
  refine List.Pairwise.imp_of_mem ?_ (List.pairwise_lt_range (n := t.al.toNat))
  intro i j hi hj hij e
  have h := D.same e
  have hi := List.mem_range.mp hi
  have hj := List.mem_range.mp hj
  have := dvd_small D D.pos h (by omega) (by omega)
  omega
theorem Rt.sorted : srtI t.rows = rgI t.least (t.least + t.al) := by
  refine lt_one (fun k => ?_) (lt_of_le_nodup _ (srtI_up _) ((srtI_perm t.rows).nodup_iff.mpr D.nodup)) ?_
  · rw [(srtI_perm t.rows).mem_iff, D.mem]
    unfold rgI
    rw [List.mem_map]
    constructor
    · rintro ⟨h1, h2⟩
      exact ⟨(k - t.least).toNat, List.mem_range.mpr (by omega), by omega⟩
    · rintro ⟨n, hn, rfl⟩
      have := List.mem_range.mp hn
      omega
  · unfold rgI
    rw [List.pairwise_map]
    exact List.Pairwise.imp (fun h => by omega) (List.pairwise_lt_range (n := (t.least + t.al - t.least).toNat))
theorem Rt.min : sMinL [.lst (t.rows.map I)] = some (.fz (I t.least)) ∧ sMaxL [.lst (t.rows.map I)] = some (.fz (I (t.least + t.al - 1))) := by
  have li := liI_ints t.rows
  have p := D.pos
  have m1 := D.mem (y := t.least)
  have m2 := D.mem (y := t.least + t.al - 1)
  cases h : t.rows with
  | nil =>
    have := D.len
    rw [h] at this
    simp at this
    omega
  | cons n ns =>
    obtain ⟨a1, a2⟩ := minI_mem ns n
    obtain ⟨b1, b2⟩ := maxI_mem ns n
    rw [← h] at a1 a2 b1 b2
    have c1 := D.mem.mp a1
    have c2 := D.mem.mp b1
    have c3 := a2 _ (m1.mpr (by omega))
    have c4 := b2 _ (m2.mpr (by omega))
    have e1 : minI n ns = t.least := by omega
    have e2 : maxI n ns = t.least + t.al - 1 := by omega
    rw [h] at li
    simp only [sMinL, sMaxL, li, e1, e2, and_self]
theorem Rt.at_ {s : Nat} (h : (s : Int) < t.al) : sIx (.lst (t.rows.map I)) (I (s : Int)) = some (.fz (I (t.pd s))) := by
  have l := D.len
  show (atI (t.rows.map I) (s : Int)).map _ = _
  have hs : s < t.al.toNat := by omega
  unfold atI ixN
  have g : t.rows[s]? = some (t.pd s) := by
    unfold T.rows
    simp [hs]
  have c1 : ¬ ((s : Int) < 0) := by omega
  have c2 : (s : Int) < ((t.al.toNat : Nat) : Int) := by omega
  simp only [List.length_map, l, c1, if_false, c2]
  simp [g]
end
theorem ats_int : ∀ ys : List Int, ats (ys.map I) = some (ys.map V.int)
  | [] => rfl
  | y :: ys => by
    show (ats (ys.map I)).map (V.int y :: ·) = _
    rw [ats_int ys]
    rfl
theorem flat_int : ∀ ys : List Int, (ys.map V.int).all flatV = true
  | [] => rfl
  | y :: ys => by
    rw [List.map_cons, List.all_cons, flat_int ys]
    rfl
theorem inV_int {y : Int} : ∀ ys : List Int, inV (V.int y) (ys.map V.int) = decide (y ∈ ys)
  | [] => by simp [inV]
  | z :: ys => by
    have ih := inV_int (y := y) ys
    unfold inV at ih ⊢
    rw [List.map_cons, List.any_cons, ih]
    have : eqV (V.int z) (V.int y) = decide (y = z) := by
      show (z == y) = _
      rw [Bool.eq_iff_iff]
      simp
      exact eq_comm
    rw [this]
    simp
theorem isIn {neg : Bool} {y : Int} {ys : List Int} : sIn neg (I y) (.lst (ys.map I)) = some (.fz (.at (.bl (if neg then !decide (y ∈ ys) else decide (y ∈ ys))))) := by
  have f1 : flatV (V.int y) = true := rfl
  have f2 := flat_int ys
  have f3 := inV_int (y := y) ys
  have f4 : itemsF (.lst (ys.map I)) = some (ys.map V.int) := ats_int ys
  simp only [sIn, f1, f2, f3, f4, and_self, if_true]
theorem eqv_same : ∀ ys : List Int, PyData.eqvAll (ys.map .int) (ys.map .int) = true
  | [] => by simp [PyData.eqvAll]
  | y :: ys => by simp [PyData.eqvAll, PyData.eqv, eqv_same ys]
theorem sNe_same (ys : List Int) : sNe (.lst (ys.map I)) (.lst (ys.map I)) = some (.fz (.at (.bl false))) := by
  simp [sNe, oor, sNeA, sNeD, pd, pds_int, shp_int, PyData.eqv, eqv_same]
theorem repr_two {a b : Int} (ha : a.natAbs.log2 < 1920) (hb : b.natAbs.log2 < 1920) : ∃ s : Str, sReprD [.lst [.tup [I a, I b], .tup [I a, I b]]] = some (.fz (.at (.str s))) := by
  have la := int_len ha
  have lb := int_len hb
  have tl := tupleText_len_le (PyData.shownAll [.int a, .int b])
  have t2 : (tupleText (PyData.shownAll [.int a, .int b])).length ≤ 4000 := by
    simp only [PyData.shownAll, PyData.shown, List.map_cons, List.map_nil, List.sum_cons, List.sum_nil, List.length_cons, List.length_nil] at tl
    exact Nat.le_trans tl (by omega)
  have z := listText_le (PyData.shownAll [.tuple [.int a, .int b], .tuple [.int a, .int b]])
  have z2 : (PyData.list [.tuple [.int a, .int b], .tuple [.int a, .int b]]).shown.length ≤ sizeLine := by
    simp only [PyData.shown]
    refine Nat.le_trans z ?_
    have p0 : piled ([] : List Str) = 0 := rfl
    simp only [PyData.shownAll, PyData.shown, piled_cons, p0] at t2 ⊢
    exact Nat.le_trans (m := 20000) (by omega) (by decide)
  have c1 : (PyData.list [.tuple [.int a, .int b], .tuple [.int a, .int b]]).showable = true := by simp [PyData.showable, PyData.showableAll, ha, hb]
  have c2 : (PyData.list [.tuple [.int a, .int b], .tuple [.int a, .int b]]).hasDict = false := by simp [PyData.hasDict, PyData.hasDictAll]
  have c3 : (PyData.list [.tuple [.int a, .int b], .tuple [.int a, .int b]]).depth ≤ 50 := by simp [PyData.depth, PyData.depthAll]
  have c : ((PyData.list [.tuple [.int a, .int b], .tuple [.int a, .int b]]).showable && !(PyData.list [.tuple [.int a, .int b], .tuple [.int a, .int b]]).hasDict && decide ((PyData.list [.tuple [.int a, .int b], .tuple [.int a, .int b]]).shown.length ≤ sizeLine) && decide ((PyData.list [.tuple [.int a, .int b], .tuple [.int a, .int b]]).depth ≤ 50)) = true := by
    rw [c1, c2, decide_eq_true z2, decide_eq_true c3]
    rfl
  have e : pd (.lst [.tup [I a, I b], .tup [I a, I b]]) = some (.list [.tuple [.int a, .int b], .tuple [.int a, .int b]]) := by simp [pd, pds]
  refine ⟨(PyData.list [.tuple [.int a, .int b], .tuple [.int a, .int b]]).shown, ?_⟩
  simp only [sReprD, e]
  rw [if_pos c]
end L

set_option Elab.async false
set_option linter.all false
set_option maxRecDepth 100000
set_option maxHeartbeats 4000000
namespace L
open PySem L2 B
/-! ### what the law asks of one layout -/
theorem join_words {t : T} (h : Lay t) : sJoin (tx [32]) (.lst (t.words.map tx)) = some (.fz (tx t.text)) := by
  refine sJoin_tx ?_
  have h1 : ∀ ws : List (List Nat), (∀ w ∈ ws, w.length ≤ 40) → (ws.map (·.length)).sum ≤ 40 * ws.length := fun ws => by
    induction ws with
    | nil => intro _; simp
    | cons w ws ih =>
      intro h
      have h2 := h w (by simp)
      have h3 := ih fun v hv => h v (by simp [hv])
      simp only [List.map_cons, List.sum_cons, List.length_cons]
      omega
  have h2 := h1 t.words fun w hw => (words_ok t false h.ok w hw).2.2
  have h3 := h.len
  rw [T.words_len] at h2 ⊢
  simp
  omega
def R0 (m : Int) : List Int := (List.range m.toNat).map fun (n : Nat) => (n : Int)
theorem rng0 (m : Int) : rngL 0 m = (R0 m).map I := by
  unfold rngL R0
  rw [List.map_map, Int.sub_zero]
  refine List.map_congr_left fun n _ => ?_
  simp
theorem R0_mem {m i : Int} (h : i ∈ R0 m) : 0 ≤ i ∧ i < m ∧ ∃ n : Nat, i = (n : Int) := by
  obtain ⟨n, hn, rfl⟩ := List.mem_map.mp h
  have := List.mem_range.mp hn
  exact ⟨by omega, by omega, n, rfl⟩
theorem R0_len (m : Int) : (R0 m).length = m.toNat := by unfold R0; rw [List.length_map, List.length_range]
theorem rows_R0 (t : T) : t.rows = (R0 t.al).map t.pd := by
  unfold T.rows R0
  rw [List.map_map]
  rfl
/-- [i for i in range(m) if P i] -/
theorem lc_if {i : Nat} {tt : M Bool} {E : B.Env} {m : Int} (P : Int → Bool) (hi : i < E.length) (hm : m ≤ 5000) (sm : smallI m = true) (h : ∀ j ∈ R0 m, tt (E.set i (some (.fz (I j)))) = .ok (P j) (E.set i (some (.fz (I j))))) : lcR1 (tgN i) [i] tt (getV i) [.fz (I m)] E = .ok (.nw (.ow (((R0 m).filter P).map I))) (E.set i none) := by
  let P' : PV → Bool := fun p => match p with
    | .at (.int z) => P z
    | _ => false
  have l := R0_len m
  have e := lcN_filt (tt := tt) (E := E) P' hi (ps := (R0 m).map I) (small _ (by rw [List.length_map, l]; omega)) fun p hp => by
    obtain ⟨j, hj, rfl⟩ := List.mem_map.mp hp
    exact h j hj
  show (if smallI m then lcN (tgN i) [i] tt (getV i) (rngL 0 m) else no) E = _
  rw [if_pos sm, rng0, e, List.filter_map]
  rfl
theorem lc_all {i : Nat} {te : M EV} {E : B.Env} {m : Int} (f : Int → Int) (hm : m ≤ 5000) (sm : smallI m = true) (h : ∀ j ∈ R0 m, te (E.set i (some (.fz (I j)))) = .ok (.fz (I (f j))) (E.set i (some (.fz (I j))))) : lcR1 (tgN i) [i] (pur true) te [.fz (I m)] E = .ok (.nw (.ow (((R0 m).map f).map I))) (E.set i none) := by
  let f' : PV → PV := fun p => match p with
    | .at (.int z) => I (f z)
    | _ => .at .non
  have l := R0_len m
  have e := lcN_map (te := te) (E := E) (i := i) f' (ps := (R0 m).map I) (small _ (by rw [List.length_map, l]; omega)) fun p hp => by
    obtain ⟨j, hj, rfl⟩ := List.mem_map.mp hp
    exact h j hj
  show (if smallI m then lcN (tgN i) [i] (pur true) te (rngL 0 m) else no) E = _
  rw [if_pos sm, rng0, e, List.map_map, List.map_map]
  rfl
theorem sNe_one {a : Str} : sNe (.at (.str a)) (.at (.str a)) = some (.fz (.at (.bl false))) := by
  rw [sNe_st]
  simp
abbrev jE (s : Sl) (t : T) (o5 o6 o7 o8 o9 : Option Sl) : B.Env := [some s, some (.fz (.lst t.enc)), some (.fz t.lay), some (.fz (I t.al)), some (.fz (.lst (t.rows.map I))), o5, o6, o7, o8, o9]
section
variable {t : T} (D : Rt t) {s : Sl} {x y : Int} {o2 o3 o4 o5 o6 o7 o8 o9 : Option Sl} {ρ : B.Env}
include D
theorem Rt.plain : t.plain = true := ok_plain t D.ok
theorem Rt.bd (hx : 0 ≤ x) (bx : Bd 2000 x) : Bd 3000 (x + t.vs) := (bx.add (D.lay.vs.mono (by decide))).mono (by decide)
theorem Rt.padd (hx : 0 ≤ x) (bx : Bd 2000 x) : bk0 (F_padding [.fz t.lay, .fz (I x)]) ρ = .ok (.fz (I (t.pd x))) ρ := e_padding D.lay D.plain hx bx
theorem Rt.gaps (hx : 0 ≤ x) (bx : Bd 2000 x) : bk0 (F_l_gaps [.fz (.lst t.enc), .fz (I x)]) ρ = .ok (.fz (I (t.pd x))) ρ := e_lgaps D.ok D.lay.dp (by have := D.lay.len; omega) hx (D.bd hx bx) D.cnt
theorem Rt.sm : smallI t.al = true := by
  have := D.pos; have := D.al
  unfold smallI; simp; omega
theorem Rt.pb (hx : 0 ≤ x) (bx : Bd 1500 x) : (t.pd x).natAbs.log2 < 1920 := by
  have g := go_up t x D.ok
  have b := bytes_up t
  have v := D.lay.vs
  have h1 : Bd 1501 (t.vs + t.vs) := v.add v
  have h2 : Bd 1502 (t.pd x) := by
    have vp := vs_nonneg t
    unfold T.pd
    unfold Bd at h1 ⊢
    have : (2 : Nat) ^ 1501 ≤ 2 ^ 1502 := Nat.pow_le_pow_right (by decide) (by decide)
    omega
  by_cases z : (t.pd x).natAbs = 0
  · rw [z]; decide
  · have := (Nat.log2_lt z).mpr h2
    omega
theorem r9 : g_l_right_9 [some s, some (.fz (.lst t.enc)), o2, o3, o4, o5, o6, o7, o8, o9] = .nx [some s, some (.fz (.lst t.enc)), some (.fz t.lay), o3, o4, o5, o6, o7, o8, o9] := by
  have e1 := fun ρ => e_lwords (ρ := ρ) D.ok D.lay.dp (by have := D.lay.len; omega)
  have jn := join_words D.lay
  have ly := fun ρ => e_layout (ρ := ρ) D.lay
  simp only [g_l_right_9, k_sp]
  simp [fnB, plainA, Sl.own, doS, bnd, getV, pur, op2, deref, Sl.pv, lift, sPlus, sSub, sMul, sDiv, sMod, sPow, powC, modC, oor, sAdd, sI, sIc, fnR, outs, seq, nxt, unpS, tgT, tgs, tgN, ifS, tupV, lstV, frzs, frz, sIx, sLe, sLt, sGt, sGe, sAnd, toB, atI, ixN, setS, setIx, setFld, putN, orT, andV, andT, isiV, PV.kd, fldV, ownsA, chkI, chkN, chkK, parS, pass1, isS, e1, jn, ly]
theorem rAl : (doS (bnd (getV 2) fun x => bnd (chkI 10 x) fun _ => callV [false] (noex F_Layout_alignment) [x]) fun v => setS false 3 v) [some s, some (.fz (.lst t.enc)), some (.fz t.lay), o3, o4, o5, o6, o7, o8, o9] = .nx [some s, some (.fz (.lst t.enc)), some (.fz t.lay), some (.fz (I t.al)), o4, o5, o6, o7, o8, o9] := by
  have e1 := fun ρ => e_alignment (ρ := ρ) (t := t)
  simp [fnB, plainA, Sl.own, doS, bnd, getV, pur, op2, deref, Sl.pv, lift, sPlus, sSub, sMul, sDiv, sMod, sPow, powC, modC, oor, sAdd, sI, sIc, fnR, outs, seq, nxt, unpS, tgT, tgs, tgN, ifS, tupV, lstV, frzs, frz, sIx, sLe, sLt, sGt, sGe, sAnd, toB, atI, ixN, setS, setIx, setFld, putN, orT, andV, andT, isiV, PV.kd, fldV, ownsA, chkI, chkN, chkK, parS, pass1, e1]
theorem rRows : (doS (bnd (bnd (getV 3) fun x => bnd (pur []) fun xs => pur (x :: xs)) fun xs => lcR1 (tgN 5) [5] (pur true) x_l_right_1 xs) fun v => setS false 4 v) [some s, some (.fz (.lst t.enc)), some (.fz t.lay), some (.fz (I t.al)), o4, o5, o6, o7, o8, o9] = .nx (jE s t none o6 o7 o8 o9) := by
  have e := lc_all (i := 5) (te := x_l_right_1) (E := [some s, some (.fz (.lst t.enc)), some (.fz t.lay), some (.fz (I t.al)), o4, o5, o6, o7, o8, o9]) (m := t.al) t.pd (by have := D.al; omega) D.sm fun j hj => by
    obtain ⟨j0, j1, _⟩ := R0_mem hj
    have g := fun ρ => D.gaps (ρ := ρ) j0 (Bd.of j0 (show j ≤ 64 by have := D.al; omega) (by unfold Bd; decide))
    simp [x_l_right_1, fnB, plainA, Sl.own, doS, bnd, getV, pur, op2, deref, Sl.pv, lift, sPlus, sSub, sMul, sDiv, sMod, sPow, powC, modC, oor, sAdd, sI, sIc, fnR, outs, seq, nxt, unpS, tgT, tgs, tgN, ifS, tupV, lstV, frzs, frz, sIx, sLe, sLt, sGt, sGe, sAnd, toB, atI, ixN, setS, setIx, setFld, putN, orT, andV, andT, isiV, PV.kd, fldV, ownsA, chkI, chkN, chkK, parS, pass1, g]
  rw [← rows_R0] at e
  simp [bnd, getV, pur, doS, e, setS, frz, Sl.pv]
theorem rLoop : ∃ p5, (doS (bnd (getV 3) fun x => bnd (pur []) fun xs => pur (x :: xs)) fun xs => forR1_ (tgN 5) g_l_right_2 xs) (jE s t none o6 o7 o8 o9) = .nx (jE s t p5 o6 o7 o8 o9) := by
  have kk : ∀ p ∈ (R0 t.al).map I, g_l_right_2 ((jE s t none o6 o7 o8 o9).set 5 (some (.fz p))) = .nx ((jE s t none o6 o7 o8 o9).set 5 (some (.fz p))) := fun p hp => by
    obtain ⟨j, hj, rfl⟩ := List.mem_map.mp hp
    obtain ⟨j0, j1, n, rfl⟩ := R0_mem hj
    have b := Bd.of (n := 1500) j0 (show (n : Int) ≤ 64 by have := D.al; omega) (by unfold Bd; decide)
    have e1 := fun ρ => D.padd (ρ := ρ) j0 (b.mono (by decide))
    have e2 := D.at_ j1
    have e3 := repr_int (D.pb j0 b)
    simp only [g_l_right_2]
    simp [fnB, plainA, Sl.own, doS, bnd, getV, pur, op2, deref, Sl.pv, lift, sPlus, sSub, sMul, sDiv, sMod, sPow, powC, modC, oor, sAdd, sI, sIc, fnR, outs, seq, nxt, unpS, tgT, tgs, tgN, ifS, tupV, lstV, frzs, frz, sLe, sLt, sGt, sGe, sAnd, toB, atI, ixN, setS, setIx, setFld, putN, orT, andV, andT, isiV, PV.kd, fldV, ownsA, chkI, chkN, chkK, parS, pass1, e1, e2, e3, sNe_one, bltV, derefs]
  obtain ⟨o, e⟩ := B.forS_keep (body := g_l_right_2) ((R0 t.al).map I) (jE s t none o6 o7 o8 o9) (by simp) kk
  refine ⟨o, ?_⟩
  have e0 : (bnd (getV 3) fun x => bnd (pur []) fun xs => pur (x :: xs)) (jE s t none o6 o7 o8 o9) = .ok [.fz (I t.al)] (jE s t none o6 o7 o8 o9) := rfl
  rw [doS_for e0 D.sm, rng0, e]
  rfl
theorem Rt.mod_at (hx : 0 ≤ x) : t.pd (x % t.al) = t.pd x := D.back ⟨-(x / t.al), by have := Int.emod_add_mul_ediv x t.al; rw [Int.mul_neg]; omega⟩
theorem rFar {m : Nat} (h : Si m s) (hm : m + 2 < 10 ^ 90) : ∃ (f : Int) (s' : Sl), 0 ≤ f ∧ Bd 1500 f ∧ Si (m + 2) s' ∧ g_l_right_10 (jE s t o5 o6 o7 o8 o9) = .nx (jE s' t o5 (some (.fz (I f))) o7 o8 o9) := by
  have ap := D.pos
  have al := D.al
  obtain ⟨v1, s1, a1, b1, h1, p1⟩ := grab h (by omega) (b := 1000000000000000000000000000000) (by decide) (by decide)
  obtain ⟨v2, s2, a2, b2, h2, p2⟩ := grab h1 (by omega) (b := t.al) ap (by omega)
  have bv : Bd 200 v1 := Bd.of a1 (Int.le_of_lt b1) (by unfold Bd; decide)
  have ba : Bd 100 t.al := Bd.of (by omega) al (by unfold Bd; decide)
  have g : mulC t.al v1 = true := mulC_bd ba bv
  have p0 : 0 ≤ t.al * v1 := Int.mul_nonneg (by omega) a1
  refine ⟨t.al * v1 + v2, s2, by omega, (((ba.mul bv).mono (by decide : 300 ≤ 400)).add (Bd.of (n := 400) a2 (show v2 ≤ 64 by omega) (by unfold Bd; decide))).mono (by decide), h2, ?_⟩
  unfold Gv at p1 p2
  obtain ⟨x, y, z, rfl⟩ := h.ow
  obtain ⟨x1, y1, z1, rfl⟩ := h1.ow
  obtain ⟨x2, y2, z2, rfl⟩ := h2.ow
  simp only [g_l_right_10]
  simp [fnB, plainA, Sl.own, doS, bnd, getV, pur, op2, deref, Sl.pv, lift, sPlus, sSub, sMul, sDiv, sMod, sPow, powC, modC, oor, sAdd, sI, sIc, fnR, outs, seq, nxt, unpS, tgT, tgs, tgN, ifS, tupV, lstV, frzs, frz, sIx, sLe, sLt, sGt, sGe, sAnd, toB, atI, ixN, setS, setIx, setFld, putN, orT, andV, andT, isiV, PV.kd, fldV, ownsA, chkI, chkN, chkK, parS, pass1, p1, p2, g]
theorem r11 {f : Int} (hf : 0 ≤ f) (bf : Bd 1500 f) : g_l_right_11 (jE s t o5 (some (.fz (I f))) o7 o8 o9) = .nx (jE s t o5 (some (.fz (I f))) o7 o8 o9) := by
  have ap := D.pos
  have m0 := Int.emod_nonneg f (Int.ne_of_gt ap)
  have m1 := Int.emod_lt_of_pos f ap
  have e1 := fun ρ => D.padd (ρ := ρ) hf (bf.mono (by decide))
  have e2 := D.at_ (s := (f % t.al).toNat) (by omega)
  rw [show (((f % t.al).toNat : Nat) : Int) = f % t.al by omega, D.mod_at hf] at e2
  have e3 : modC f t.al = true := modC_pos ap
  simp only [g_l_right_11]
  simp [fnB, plainA, Sl.own, doS, bnd, getV, pur, op2, deref, Sl.pv, lift, sPlus, sSub, sMul, sDiv, sMod, sPow, powC, modC, oor, sAdd, sI, sIc, fnR, outs, seq, nxt, unpS, tgT, tgs, tgN, ifS, tupV, lstV, frzs, frz, sLe, sLt, sGt, sGe, sAnd, toB, atI, ixN, setS, setIx, setFld, putN, orT, andV, andT, isiV, PV.kd, fldV, ownsA, chkI, chkN, chkK, parS, pass1, ap, e1, e2]
theorem r12 : g_l_right_12 (jE s t o5 o6 o7 o8 o9) = .nx (jE s t o5 o6 o7 o8 o9) := by
  have e1 := fun ρ => e_padding_range (ρ := ρ) D.lay D.plain
  rw [D.m] at e1
  obtain ⟨e2, e3⟩ := D.min
  have al := D.al
  obtain ⟨z1, z1a, z1b, z1e, _⟩ := D.hit (y := t.least) (Int.le_refl _) (by have := D.pos; omega)
  obtain ⟨z2, z2a, z2b, z2e, _⟩ := D.hit (y := t.least + t.al - 1) (by have := D.pos; omega) (Int.le_refl _)
  have q1 := D.pb z1a (Bd.of z1a (show z1 ≤ 64 by omega) (by unfold Bd; decide))
  have q2 := D.pb z2a (Bd.of z2a (show z2 ≤ 64 by omega) (by unfold Bd; decide))
  rw [z1e] at q1
  rw [z2e] at q2
  obtain ⟨w, e4⟩ := repr_two q1 q2
  have rp : ∀ p : PV, sRep (.lst [p]) (I 2) = some (.nw (.ow [p, p])) := fun p => rfl
  simp only [g_l_right_12]
  simp [fnB, plainA, Sl.own, doS, bnd, getV, pur, op2, deref, Sl.pv, lift, sPlus, sSub, sMul, sDiv, sMod, sPow, powC, modC, oor, sAdd, sI, sIc, fnR, outs, seq, nxt, unpS, tgT, tgs, tgN, ifS, tupV, lstV, frzs, frz, sIx, sLe, sLt, sGt, sGe, sAnd, toB, atI, ixN, setS, setIx, setFld, putN, orT, andV, andT, isiV, PV.kd, fldV, ownsA, chkI, chkN, chkK, parS, pass1, e1, e2, e3, e4, rp, sNe_one, bltV, derefs]
theorem r13 : g_l_right_13 (jE s t o5 o6 o7 o8 o9) = .nx (jE s t o5 o6 o7 o8 o9) := by
  obtain ⟨e2, e3⟩ := D.min
  have st : sSorted [.lst (t.rows.map I)] = some (.nw (.ow ((rgI t.least (t.least + t.al)).map I))) := by
    have li := liI_ints t.rows
    simp only [sSorted, li, Option.map_some, D.sorted]
  have al := D.al
  have ap := D.pos
  have cn := D.cnt
  obtain ⟨z1, z1a, z1b, z1e, _⟩ := D.hit (y := t.least) (Int.le_refl _) (by omega)
  have pb := pd_bd t D.ok D.low z1
  have pe : t.pd z1 = t.go z1 - z1 - t.bytes := rfl
  have ok : RgOk t.least (t.least + t.al) := RgOk.of_le (by omega) (by omega) (by omega) (by omega)
  have rg : sRgL (I t.least) (I (t.least + t.al)) = some (.nw (.ow ((rgI t.least (t.least + t.al)).map I))) := by
    simp only [sRgL]
    rw [if_pos ok]
  have ns := sNe_same (rgI t.least (t.least + t.al))
  have ea : t.least + t.al - 1 + 1 = t.least + t.al := by omega
  simp only [g_l_right_13]
  simp [fnB, plainA, Sl.own, doS, bnd, getV, pur, op2, deref, Sl.pv, lift, sPlus, sSub, sMul, sDiv, sMod, sPow, powC, modC, oor, sAdd, sI, sIc, fnR, outs, seq, nxt, unpS, tgT, tgs, tgN, ifS, tupV, lstV, frzs, frz, sIx, sLe, sLt, sGt, sGe, sAnd, toB, atI, ixN, setS, setIx, setFld, putN, orT, andV, andT, isiV, PV.kd, fldV, ownsA, chkI, chkN, chkK, parS, pass1, e2, e3, st, rg, ns, ea, bltV, derefs]
end
end L

set_option Elab.async false
set_option linter.all false
set_option maxRecDepth 100000
set_option maxHeartbeats 4000000
namespace L
open PySem L2 B
/-! ### the starts that have a padding -/
section
variable {ρ : B.Env}
theorem e_arc {f l p s : Int} (hp : 0 < p) : bk0 (F_l_in_arc [.fz (.tup [I f, I l, I p]), .fz (I s)]) ρ = .ok (.fz (.at (.bl (decide ((s - f) % p < l))))) ρ := by
  have hm : modC (s - f) p = true := modC_pos hp
  simp only [F_l_in_arc, g_l_in_arc]
  simp [fnB, plainA, Sl.own, doS, bnd, getV, pur, op2, deref, Sl.pv, lift, sPlus, sSub, sMul, sDiv, sMod, sPow, powC, modC, oor, sAdd, sI, sIc, fnR, outs, seq, nxt, unpS, tgT, tgs, tgN, ifS, tupV, lstV, frzs, frz, sIx, sLe, sLt, sGt, sGe, sAnd, toB, atI, ixN, setS, setIx, setFld, putN, orT, andV, andT, isiV, PV.kd, fldV, ownsA, chkI, chkN, chkK, parS, pass1, hp]
theorem sNe_pair {a b : Int} : sNe (.tup [I a, I b]) (.tup [I a, I b]) = some (.fz (.at (.bl false))) := by
  have s1 : SeqAt.shaped (.tuple [.int a, .int b]) = true := by simp [SeqAt.shaped, PyData.canLay0, PyData.canLayAll0, PyData.depth, PyData.depthAll]
  simp [sNe, oor, sNeA, sNeD, pd, pds, s1, PyData.eqv, PyData.eqvAll]
end
section
variable {t : T} (D : Rt t) {s : Sl} {y : Int} {o5 o6 o7 o8 o9 : Option Sl} {ρ : B.Env}
include D
theorem rIn : ∃ p5 p8 p9, g_l_right_8 (jE s t o5 o6 (some (.fz (I y))) o8 o9) = .nx (jE s t p5 o6 (some (.fz (I y))) p8 p9) := by
  have ap := D.pos
  have al := D.al
  have e1 := fun ρ => e_swp (ρ := ρ) (y := y) D.lay D.plain
  rw [D.m] at e1
  have e2 := isIn (neg := true) (y := y) (ys := t.rows)
  rw [if_pos rfl] at e2
  by_cases h : t.least ≤ y ∧ y ≤ t.least + t.al - 1
  · simp only [if_pos h] at e1
    rw [decide_eq_true (D.mem.mpr h)] at e2
    obtain ⟨f, hf⟩ : ∃ f, (t.least - y - (t.trip one).b) % t.al = f := ⟨_, rfl⟩
    have f0 : 0 ≤ f := by rw [← hf]; exact Int.emod_nonneg _ (Int.ne_of_gt ap)
    have f1 : f < t.al := by rw [← hf]; exact Int.emod_lt_of_pos _ ap
    rw [hf] at e1
    have s6 : g_l_right_6 (jE s t o5 o6 (some (.fz (I y))) o8 o9) = .nx (jE s t o5 o6 (some (.fz (I y))) (some (.fz (.tup [I f, I 1, I t.al]))) o9) := by
      simp only [g_l_right_6]
      simp [fnB, plainA, Sl.own, doS, bnd, getV, pur, op2, deref, Sl.pv, lift, sPlus, sSub, sMul, sDiv, sMod, sPow, powC, modC, oor, sAdd, sI, sIc, fnR, outs, seq, nxt, unpS, tgT, tgs, tgN, ifS, tupV, lstV, frzs, frz, sIx, sLe, sLt, sGt, sGe, sAnd, toB, atI, ixN, setS, setIx, setFld, putN, orT, andV, andT, isiV, PV.kd, fldV, ownsA, chkI, chkN, chkK, parS, pass1, e1]
    have ea := fun (ρ : B.Env) (z : Int) => e_arc (ρ := ρ) (f := f) (l := 1) (s := z) ap
    have lc1 := lc_if (i := 5) (tt := t_l_right_3) (E := jE s t o5 o6 (some (.fz (I y))) (some (.fz (.tup [I f, I 1, I t.al]))) o9) (m := t.al) (fun z => decide (t.pd z = y)) (by simp) (by omega) D.sm fun j hj => by
      have q : decide ((j - f) % t.al < 1) = decide (t.pd j = y) := by
        rw [← hf]
        exact decide_eq_decide.mpr (D.arc h.1 h.2)
      rw [← q]
      simp [t_l_right_3, fnB, plainA, Sl.own, doS, bnd, getV, pur, op2, deref, Sl.pv, lift, sPlus, sSub, sMul, sDiv, sMod, sPow, powC, modC, oor, sAdd, sI, sIc, fnR, outs, seq, nxt, unpS, tgT, tgs, tgN, ifS, tupV, lstV, frzs, frz, sIx, sLe, sLt, sGt, sGe, sAnd, toB, atI, ixN, setS, setIx, setFld, putN, orT, andV, andT, isiV, PV.kd, fldV, ownsA, chkI, chkN, chkK, parS, pass1, ea]
    have lc2 := lc_if (i := 5) (tt := t_l_right_4) (E := (jE s t none o6 (some (.fz (I y))) (some (.fz (.tup [I f, I 1, I t.al]))) (some (.fz (.lst (((R0 t.al).filter (fun z => decide (t.pd z = y))).map I)))))) (m := t.al) (fun z => decide (t.pd z = y)) (by simp) (by omega) D.sm fun j hj => by
      obtain ⟨j0, j1, n, rfl⟩ := R0_mem hj
      have q := D.at_ j1
      simp [t_l_right_4, fnB, plainA, Sl.own, doS, bnd, getV, pur, op2, deref, Sl.pv, lift, sPlus, sSub, sMul, sDiv, sMod, sPow, powC, modC, oor, sAdd, sI, sIc, fnR, outs, seq, nxt, unpS, tgT, tgs, tgN, ifS, tupV, lstV, frzs, frz, sLe, sLt, sGt, sGe, sAnd, toB, atI, ixN, setS, setIx, setFld, putN, orT, andV, andT, isiV, PV.kd, fldV, ownsA, chkI, chkN, chkK, parS, pass1, q]
    generalize (R0 t.al).filter (fun z => decide (t.pd z = y)) = ins at *
    have ns := sNe_same ins
    have sl : slVT (.tup [I f, I 1, I t.al]) (some 1) none = some (.fz (.tup [I 1, I t.al])) := rfl
    have np := sNe_pair (a := 1) (b := t.al)
    have ii : isi_tuple (PV.kd (.tup [I f, I 1, I t.al])) = some true := rfl
    have s5 : g_l_right_5 (jE s t none o6 (some (.fz (I y))) (some (.fz (.tup [I f, I 1, I t.al]))) (some (.fz (.lst (ins.map I))))) = .nx (jE s t none o6 (some (.fz (I y))) (some (.fz (.tup [I f, I 1, I t.al]))) (some (.fz (.lst (ins.map I))))) := by
      simp only [g_l_right_5]
      generalize hT : tgN 5 = T5 at *
      simp [fnB, plainA, Sl.own, doS, bnd, getV, pur, op2, deref, Sl.pv, lift, sPlus, sSub, sMul, sDiv, sMod, sPow, powC, modC, oor, sAdd, sI, sIc, fnR, outs, seq, nxt, unpS, tgT, tgs, ifS, tupV, lstV, frzs, frz, sIx, sLe, sLt, sGt, sGe, sAnd, toB, atI, ixN, setS, setIx, setFld, putN, orT, andV, andT, isiV, PV.kd, fldV, ownsA, chkI, chkN, chkK, parS, pass1, lc2, ns]
    have s7 : g_l_right_7 (jE s t o5 o6 (some (.fz (I y))) (some (.fz (.tup [I f, I 1, I t.al]))) o9) = .nx (jE s t none o6 (some (.fz (I y))) (some (.fz (.tup [I f, I 1, I t.al]))) (some (.fz (.lst (ins.map I))))) := by
      have c1 : (0 : Int) ≤ f := f0
      have fix : sIx (.tup [I f, I 1, I t.al]) (I 0) = some (.fz (I f)) := rfl
      have t1 : (orT (bnd (bnd (bnd (getV 8) fun x => isiV isi_tuple x) toB) fun b => pur (!b)) (orT (bnd (bnd (getV 8) fun x => bnd (bnd (pur (.fz (.at (.int 1)))) toI) fun l => bnd (pur none) fun h => bnd (deref x) fun p => lift (slVT p l h)) fun x => bnd (bnd (bnd (pur (.fz (.at (.int 1)))) fun x => bnd (bnd (getV 3) fun x => bnd (pur []) fun xs => pur (x :: xs)) fun xs => pur (x :: xs)) tupV) fun y => bnd (op2 sNe x y) toB) (bnd (chainT sLe sLt (pur (.fz (.at (.int 0)))) (bnd (getV 8) fun x => bnd (pur (.fz (.at (.int 0)))) fun y => op2 sIx x y) (getV 3)) fun b => pur (!b)))) (jE s t o5 o6 (some (.fz (I y))) (some (.fz (.tup [I f, I 1, I t.al]))) o9) = .ok false (jE s t o5 o6 (some (.fz (I y))) (some (.fz (.tup [I f, I 1, I t.al]))) o9) := by
        simp [fnB, plainA, Sl.own, doS, bnd, getV, pur, op2, deref, Sl.pv, lift, sPlus, sSub, sMul, sDiv, sMod, sPow, powC, modC, oor, sAdd, sI, sIc, fnR, outs, seq, nxt, unpS, tgT, tgs, tgN, ifS, tupV, lstV, frzs, frz, sLe, sLt, sGt, sGe, sAnd, toB, atI, ixN, setS, setIx, setFld, putN, orT, andV, andT, isiV, PV.kd, fldV, ownsA, chkI, chkN, chkK, parS, pass1, chainT, isi_tuple, toI, sl, np, fix, c1, f1]
      have t0 : (bnd (getV 7) fun x => bnd (getV 4) fun y => bnd (op2 (sIn true) x y) toB) (jE s t o5 o6 (some (.fz (I y))) (some (.fz (.tup [I f, I 1, I t.al]))) o9) = .ok false (jE s t o5 o6 (some (.fz (I y))) (some (.fz (.tup [I f, I 1, I t.al]))) o9) := by
        simp [bnd, getV, op2, deref, lift, toB, e2]
      have s9 : (doS (bnd (bnd (getV 3) fun x => bnd (pur []) fun xs => pur (x :: xs)) fun xs => lcR1 (tgN 5) [5] t_l_right_3 (getV 5) xs) fun v => setS false 9 v) (jE s t o5 o6 (some (.fz (I y))) (some (.fz (.tup [I f, I 1, I t.al]))) o9) = .nx (jE s t none o6 (some (.fz (I y))) (some (.fz (.tup [I f, I 1, I t.al]))) (some (.fz (.lst (ins.map I))))) := by
        simp [bnd, getV, pur, doS, lc1, setS, frz, Sl.pv]
      rw [g_l_right_7, ifS_f t0, ifS_f t1]
      exact seq_nx s9 s5
    exact ⟨_, _, _, seq_nx s6 s7⟩
  · simp only [if_neg h] at e1
    rw [decide_eq_false (fun z => h (D.mem.mp z))] at e2
    have s6 : g_l_right_6 (jE s t o5 o6 (some (.fz (I y))) o8 o9) = .nx (jE s t o5 o6 (some (.fz (I y))) (some (.fz (.at .non))) o9) := by
      simp only [g_l_right_6]
      simp [fnB, plainA, Sl.own, doS, bnd, getV, pur, op2, deref, Sl.pv, lift, sPlus, sSub, sMul, sDiv, sMod, sPow, powC, modC, oor, sAdd, sI, sIc, fnR, outs, seq, nxt, unpS, tgT, tgs, tgN, ifS, tupV, lstV, frzs, frz, sIx, sLe, sLt, sGt, sGe, sAnd, toB, atI, ixN, setS, setIx, setFld, putN, orT, andV, andT, isiV, PV.kd, fldV, ownsA, chkI, chkN, chkK, parS, pass1, e1]
    have s7 : g_l_right_7 (jE s t o5 o6 (some (.fz (I y))) (some (.fz (.at .non))) o9) = .nx (jE s t o5 o6 (some (.fz (I y))) (some (.fz (.at .non))) o9) := by
      have nn : sNotN (.at .non) (.at .non) = some (.fz (.at (.bl false))) := rfl
      simp only [g_l_right_7]
      simp [fnB, plainA, Sl.own, doS, bnd, getV, pur, op2, deref, Sl.pv, lift, sPlus, sSub, sMul, sDiv, sMod, sPow, powC, modC, oor, sAdd, sI, sIc, fnR, outs, seq, nxt, unpS, tgT, tgs, tgN, ifS, tupV, lstV, frzs, frz, sIx, sLe, sLt, sGt, sGe, sAnd, toB, atI, ixN, setS, setIx, setFld, putN, orT, andV, andT, isiV, PV.kd, fldV, ownsA, chkI, chkN, chkK, parS, pass1, e2, nn]
    exact ⟨_, _, _, seq_nx s6 s7⟩
theorem r14 : ∃ p5 p7 p8 p9, g_l_right_14 (jE s t o5 o6 o7 o8 o9) = .nx (jE s t p5 o6 p7 p8 p9) := by
  obtain ⟨e2, e3⟩ := D.min
  have al := D.al
  have ln := D.len
  have st : sSrtSet [.lst (t.rows.map I)] = some (.nw (.ow ((usrt t.rows).map I))) := by
    have li := liI_ints t.rows
    simp only [sSrtSet, li]
    rw [if_pos (by omega)]
  have ul : (usrt t.rows).length ≤ 1000 := by
    have : ∀ l : List Int, (usrt l).length ≤ l.length := fun l => by
      have ins : ∀ (n : Int) (l : List Int), (insU n l).length ≤ l.length + 1 := fun n l => by
        induction l with
        | nil => simp [insU]
        | cons m r ih =>
          unfold insU
          split
          · simp
          · split
            · simp
            · simp; omega
      induction l with
      | nil => simp [usrt]
      | cons n r ih =>
        have := ins n (usrt r)
        simp only [usrt, List.length_cons]
        omega
    have := this t.rows
    omega
  have z1 := small (5 + (usrt t.rows).length) (by omega)
  have z2 := small ((usrt t.rows).length + 5) (by omega)
  generalize usrt t.rows = us at *
  obtain ⟨ρ', e, q5, q7, q8, q9, rfl⟩ := B.forS_inv (t := tgN 7) (body := g_l_right_8) (fun ρ => ∃ q5 q7 q8 q9, ρ = jE s t q5 o6 q7 q8 q9) ([I (t.least - 1), I (t.least + t.al - 1 + 1), I (-1), I 1000000000000000000000000000000, I (-1000000000000000000000000000000000000000000000000000000000000)] ++ us.map I) (jE s t o5 o6 o7 o8 o9) ⟨_, _, _, _, rfl⟩ fun p hp ρ hJ => by
    obtain ⟨q5, q7, q8, q9, rfl⟩ := hJ
    obtain ⟨y, rfl⟩ : ∃ y : Int, p = I y := by
      rcases List.mem_append.mp hp with h | h
      · simp only [List.mem_cons, List.not_mem_nil, or_false] at h
        rcases h with h | h | h | h | h <;> exact ⟨_, h⟩
      · obtain ⟨y, _, e⟩ := List.mem_map.mp h
        exact ⟨y, e.symm⟩
    obtain ⟨p5, p8, p9, e⟩ := rIn D (s := s) (y := y) (o5 := q5) (o6 := o6) (o8 := q8) (o9 := q9)
    exact ⟨_, _, rfl, e, _, _, _, _, rfl⟩
  refine ⟨q5, q7, q8, q9, ?_⟩
  simp only [g_l_right_14]
  simp [fnB, plainA, Sl.own, doS, bnd, getV, pur, op2, deref, Sl.pv, lift, sPlus, sSub, sMul, sDiv, sMod, sPow, powC, modC, oor, sAdd, sI, sIc, fnR, outs, seq, nxt, unpS, tgT, tgs, ifS, tupV, lstV, frzs, frz, sIx, sLe, sLt, sGt, sGe, sAnd, toB, atI, ixN, setS, setIx, setFld, putN, orT, andV, andT, isiV, PV.kd, fldV, ownsA, chkI, chkN, chkK, parS, pass1, e2, e3, st, op1, sNeg, sCatS_lst, sCatL, z1, z2, bltV, derefs, forM_, itemsL]
  simp at e
  exact e
theorem e_right {m : Nat} (h : Si m s) (hm : m + 2 < 10 ^ 90) : ∃ s', Si (m + 2) s' ∧ Gv F_l_right s [.fz (.lst t.enc)] (.fz (.at (.bl true))) s' := by
  obtain ⟨p5, lp⟩ := rLoop D (s := s) (o6 := none) (o7 := none) (o8 := none) (o9 := none)
  obtain ⟨f, s', f0, fb, hS, e10⟩ := rFar D (o5 := p5) (o6 := none) (o7 := none) (o8 := none) (o9 := none) h hm
  have e11 := r11 D (s := s') (o5 := p5) (o7 := none) (o8 := none) (o9 := none) f0 fb
  have e12 := r12 D (s := s') (o5 := p5) (o6 := some (.fz (I f))) (o7 := none) (o8 := none) (o9 := none)
  have e13 := r13 D (s := s') (o5 := p5) (o6 := some (.fz (I f))) (o7 := none) (o8 := none) (o9 := none)
  obtain ⟨q5, q7, q8, q9, e14⟩ := r14 D (s := s') (o5 := p5) (o6 := some (.fz (I f))) (o7 := none) (o8 := none) (o9 := none)
  have e9 := r9 D (s := s) (o2 := none) (o3 := none) (o4 := none) (o5 := none) (o6 := none) (o7 := none) (o8 := none) (o9 := none)
  have eA := rAl D (s := s) (o3 := none) (o4 := none) (o5 := none) (o6 := none) (o7 := none) (o8 := none) (o9 := none)
  have eR := rRows D (s := s) (o4 := none) (o5 := none) (o6 := none) (o7 := none) (o8 := none) (o9 := none)
  have eE : (doS (pur (.fz (.at (.bl true)))) fun v ρ => So.rt v ρ) (jE s' t q5 (some (.fz (I f))) q7 q8 q9) = .rt (.fz (.at (.bl true))) (jE s' t q5 (some (.fz (I f))) q7 q8 q9) := rfl
  have fin := seq_nx e9 (seq_nx eA (seq_nx eR (seq_nx lp (seq_nx e10 (seq_nx e11 (seq_nx e12 (seq_nx e13 (seq_nx e14 eE))))))))
  have fin' : g_l_right [some s, some (.fz (.lst t.enc)), none, none, none, none, none, none, none, none] = _ := fin
  refine ⟨s', hS, fun ρ j => ?_⟩
  obtain ⟨x, y, z, rfl⟩ := h.ow
  obtain ⟨x2, y2, z2, rfl⟩ := hS.ow
  simp only [F_l_right]
  simp [fnB, plainA, Sl.own]
  rw [fin']
  simp [fnR, outs, ownsA, Sl.own]
end
end L

set_option Elab.async false
set_option linter.all false
set_option maxRecDepth 100000
set_option maxHeartbeats 4000000
namespace L
open PySem L2 B
/-! ### the wide layout -/
theorem small_at {v : Nat} (h : v < 26) : atI [97, 98, 99, 100, 101, 102, 103, 104, 105, 106, 107, 108, 109, 110, 111, 112, 113, 114, 115, 116, 117, 118, 119, 120, 121, 122] (v : Int) = some (97 + v) := by
  have : ∀ i : Fin 26, atI [97, 98, 99, 100, 101, 102, 103, 104, 105, 106, 107, 108, 109, 110, 111, 112, 113, 114, 115, 116, 117, 118, 119, 120, 121, 122] ((i : Nat) : Int) = some (97 + (i : Nat)) := by decide
  exact this ⟨v, h⟩
def wn (i : Nat) : List Nat := [122, 97 + i / 26, 97 + i % 26]
theorem wn_lab {i : Nat} (h : i < 100) : lab (wn i) := by
  refine ⟨by simp [wn], by simp [wn], ?_⟩
  simp only [wn, List.all_cons, List.all_nil, sml, Bool.and_true, Bool.and_eq_true, decide_eq_true_eq]
  omega
theorem wn_inj {i j : Nat} (h : wn i = wn j) : i = j := by
  simp only [wn, List.cons.injEq, and_true, true_and] at h
  omega
theorem ok_nov : ∀ t : T, t.ok true → t.nov = 0
  | .nil, _ => rfl
  | .size n r, h => ok_nov r h.2
  | .align k r, h => ok_nov r h.2.2
  | .label s r, h => ok_nov r h.2
  | .rep t b r, h => by simp only [T.nov, ok_nov b h.2.2.2.1, ok_nov r h.2.2.2.2]
  | .both x y r, h => by simp [T.ok] at h
/-- so many turns behind -/
structure Wd (i : Nat) (t : T) : Prop where
  ok : t.ok true
  dp : t.dp ≤ 1
  len : t.len = 3 * i + 2 * (i / 10)
  labs : t.labs = (List.range i).map wn
  low : t.low 6
  cnt : t.cnt ≤ 12 * i
theorem Wd.nil : Wd 0 .nil := ⟨trivial, by decide, rfl, rfl, trivial, Nat.le_refl _⟩
def part (i n k : Nat) : T := .label (wn i) (.size n (.align k .nil))
theorem Wd.one {i n k : Nat} {t : T} (h : Wd i t) (hi : i < 100) (hn : n ≤ 1000) (h1 : 1 ≤ k) (hk : k ≤ 3) (h9 : i % 10 ≠ 9) : Wd (i + 1) (t.app (part i n k)) := by
  have n30 : n ≤ 10 ^ 30 := Nat.le_trans hn (by decide)
  have := h.len; have := h.dp; have := h.cnt
  refine ⟨T.ok_app _ _ _ h.ok ⟨wn_lab hi, n30, h1, by omega, trivial⟩, ?_, ?_, ?_, T.low_app _ _ h.low ⟨by omega, trivial⟩, ?_⟩
  · rw [T.dp_app]; simp only [part, T.dp]; omega
  · rw [T.len_app]; simp only [part, T.len]; omega
  · rw [T.labs_app, h.labs, List.range_succ, List.map_append]; rfl
  · rw [T.cnt_app]; simp only [part, T.cnt]; omega
theorem Wd.rep {i n k m : Nat} {t : T} (h : Wd i t) (hi : i < 100) (hn : n ≤ 1000) (h1 : 1 ≤ k) (hk : k ≤ 3) (h9 : i % 10 = 9) (m2 : 2 ≤ m) (m4 : m ≤ 4) : Wd (i + 1) (t.app (.rep m (part i n k) .nil)) := by
  have n30 : n ≤ 10 ^ 30 := Nat.le_trans hn (by decide)
  have := h.len; have := h.dp; have := h.cnt
  refine ⟨T.ok_app _ _ _ h.ok ⟨m2, Nat.le_trans m4 (by decide), by simp [part], ⟨wn_lab hi, n30, h1, by omega, trivial⟩, trivial⟩, ?_, ?_, ?_, T.low_app _ _ h.low ⟨⟨by omega, trivial⟩, trivial⟩, ?_⟩
  · rw [T.dp_app]; simp only [part, T.dp]; omega
  · rw [T.len_app]; simp only [part, T.len]; omega
  · rw [T.labs_app, h.labs, List.range_succ, List.map_append]; rfl
  · rw [T.cnt_app]; simp only [part, T.cnt]; omega
abbrev vE (s : Sl) (p2 : Option Sl) (ps : List PV) (o5 o6 : Option Sl) : B.Env := [some s, some (.fz (.tup [I 3, I 40])), p2, some (.fz (tx [97, 98, 99, 100, 101, 102, 103, 104, 105, 106, 107, 108, 109, 110, 111, 112, 113, 114, 115, 116, 117, 118, 119, 120, 121, 122])), some (.fz (.lst ps)), o5, o6]
section
variable {m : Nat} {s : Sl} {o5 o6 : Option Sl} {ps : List PV}
theorem w1 {i : Nat} (hi : i < 100) : g_l_wide_1 (vE s (some (.fz (I i))) ps o5 o6) = .nx (vE s (some (.fz (I i))) ps (some (.fz (tx (wn i)))) o6) := by
  have a1 := small_at (v := i / 26) (by omega)
  have a2 := small_at (v := i % 26) (by omega)
  rw [Int.natCast_ediv] at a1
  rw [Int.natCast_emod] at a2
  rw [show ((26 : Nat) : Int) = 26 from rfl] at a1 a2
  have b1 := sIx_tx (by decide) a1
  have b2 := sIx_tx (by decide) a2
  have c1 := sCatS_tx (a := [122]) (b := [97 + i / 26]) (small _ (by simp))
  have c2 := sCatS_tx (a := [122, 97 + i / 26]) (b := [97 + i % 26]) (small _ (by simp))
  have dv : ∀ z, divC z 26 = true := fun z => by unfold divC; decide
  have kz : Str.ofString "z" = SX.S [122] := by rfl
  simp only [g_l_wide_1, kz, wn]
  simp [fnB, plainA, Sl.own, doS, bnd, getV, pur, op2, deref, Sl.pv, lift, sPlus, sSub, sMul, sDiv, sMod, sPow, powC, modC, oor, sAdd, sI, sIc, fnR, outs, seq, nxt, unpS, tgT, tgs, tgN, ifS, tupV, lstV, frzs, frz, sLe, sLt, sGt, sGe, sAnd, toB, atI, ixN, setS, setIx, setFld, putN, orT, andV, andT, isiV, PV.kd, fldV, ownsA, chkI, chkN, chkK, parS, pass1, b1, b2, c1, c2, dv]
theorem w2 {i : Nat} (h : Si m s) (hm : m + 2 < 10 ^ 90) : ∃ (n k : Nat) (s' : Sl), n ≤ 1000 ∧ 1 ≤ k ∧ k ≤ 3 ∧ Si (m + 2) s' ∧ g_l_wide_2 (vE s (some (.fz (I i))) ps (some (.fz (tx (wn i)))) o6) = .nx (vE s' (some (.fz (I i))) ps (some (.fz (tx (wn i)))) (some (.fz (.lst (part i n k).enc)))) := by
  obtain ⟨v1, s1, a1, b1, h1, p1⟩ := grab h (by omega) (b := 40) (by decide) (by decide)
  obtain ⟨n, rfl⟩ := Int.eq_ofNat_of_zero_le a1
  obtain ⟨k, s2, k1, k2, h2, p2⟩ := e_lpower (top := 3) h1 (by omega) (by decide) (by decide)
  refine ⟨n, k, s2, by omega, k1, k2, h2, ?_⟩
  have i0 : sIx (.tup [I 3, I 40]) (I 0) = some (.fz (I 3)) := rfl
  have i1 : sIx (.tup [I 3, I 40]) (I 1) = some (.fz (I 40)) := rfl
  have p2' : Gv F_l_power s1 [.fz (I 3)] (.fz (I (2 ^ k))) s2 := p2
  unfold Gv at p1 p2'
  obtain ⟨x, y, z, rfl⟩ := h.ow
  obtain ⟨x1, y1, z1, rfl⟩ := h1.ow
  obtain ⟨x2, y2, z2, rfl⟩ := h2.ow
  simp only [g_l_wide_2, part, T.enc]
  simp [fnB, plainA, Sl.own, doS, bnd, getV, pur, op2, deref, Sl.pv, lift, sPlus, sSub, sMul, sDiv, sMod, sPow, powC, modC, oor, sAdd, sI, sIc, fnR, outs, seq, nxt, unpS, tgT, tgs, tgN, ifS, tupV, lstV, frzs, frz, sLe, sLt, sGt, sGe, sAnd, toB, atI, ixN, setS, setIx, setFld, putN, orT, andV, andT, isiV, PV.kd, fldV, ownsA, chkI, chkN, chkK, parS, pass1, i0, i1, p1, p2']
theorem w3 {i n k : Nat} {acc : T} (W : Wd i acc) (hi : i < 100) (hn : n ≤ 1000) (k1 : 1 ≤ k) (k3 : k ≤ 3) (h : Si m s) (hm : m + 1 < 10 ^ 90) : ∃ (t : T) (s' : Sl), Wd (i + 1) t ∧ Si (m + 1) s' ∧ g_l_wide_3 (vE s (some (.fz (I i))) acc.enc o5 (some (.fz (.lst (part i n k).enc)))) = .nx (vE s' (some (.fz (I i))) t.enc o5 (some (.fz (.lst (part i n k).enc)))) := by
  have al := T.enc_len acc
  have l := W.len
  have z1 := small (acc.enc.length + 1) (by omega)
  have z3 := small (acc.enc.length + 3) (by omega)
  by_cases h9 : i % 10 = 9
  · obtain ⟨v1, s1, a1, b1, h1, p1⟩ := grab h (by omega) (b := 3) (by decide) (by decide)
    obtain ⟨j, rfl⟩ := Int.eq_ofNat_of_zero_le a1
    have ei : (i : Int) % 10 = 9 := by omega
    have ea := T.enc_app acc (.rep (2 + j) (part i n k) .nil)
    have en : (T.rep (2 + j) (part i n k) .nil).enc = [.tup [.at (.str "rep"), I (2 + (j : Int)), .lst (part i n k).enc]] := by
      simp only [T.enc]
      rw [show (((2 + j : Nat)) : Int) = 2 + (j : Int) by omega]
    rw [en] at ea
    refine ⟨acc.app (.rep (2 + j) (part i n k) .nil), s1, W.rep hi hn k1 k3 h9 (by omega) (by omega), h1, ?_⟩
    rw [ea]
    unfold Gv at p1
    obtain ⟨x, y, z, rfl⟩ := h.ow
    obtain ⟨x1, y1, z1', rfl⟩ := h1.ow
    generalize (part i n k).enc = pe at *
    simp only [g_l_wide_3]
    simp [fnB, plainA, Sl.own, doS, bnd, getV, pur, op2, deref, Sl.pv, lift, sPlus, sSub, sMul, sDiv, sMod, sPow, powC, modC, oor, sAdd, sI, sIc, fnR, outs, seq, nxt, unpS, tgT, tgs, tgN, ifS, tupV, lstV, frzs, frz, sIx, sLe, sLt, sGt, sGe, sAnd, toB, atI, ixN, setS, setIx, setFld, putN, orT, andV, andT, isiV, PV.kd, fldV, ownsA, chkI, chkN, chkK, parS, pass1, p1, ei, sCatS_lst, sCatL, z1]
  · have ei : ¬ (i : Int) % 10 = 9 := by omega
    have ea := T.enc_app acc (part i n k)
    have pl : (part i n k).enc.length = 3 := rfl
    refine ⟨acc.app (part i n k), s, W.one hi hn k1 k3 h9, h.mono (by omega), ?_⟩
    rw [ea]
    have z4 := small (acc.enc.length + (part i n k).enc.length) (by omega)
    generalize (part i n k).enc = pe at *
    simp only [g_l_wide_3]
    simp [fnB, plainA, Sl.own, doS, bnd, getV, pur, op2, deref, Sl.pv, lift, sPlus, sSub, sMul, sDiv, sMod, sPow, powC, modC, oor, sAdd, sI, sIc, fnR, outs, seq, nxt, unpS, tgT, tgs, tgN, ifS, tupV, lstV, frzs, frz, sIx, sLe, sLt, sGt, sGe, sAnd, toB, atI, ixN, setS, setIx, setFld, putN, orT, andV, andT, isiV, PV.kd, fldV, ownsA, chkI, chkN, chkK, parS, pass1, ei, sCatS_lst, sCatL, z4]
end
end L

set_option Elab.async false
set_option linter.all false
set_option maxRecDepth 100000
set_option maxHeartbeats 4000000
namespace L
open PySem L2 B
/-! ### the wide layout, whole -/
def szp (n : Nat) : PV := .tup [.at (.str "size"), I n]
def sz : List Nat → T
  | [] => .nil
  | n :: r => .size n (sz r)
theorem sz_enc : ∀ ns : List Nat, (sz ns).enc = ns.map szp
  | [] => rfl
  | n :: r => by simp only [sz, T.enc, sz_enc r, List.map_cons]; rfl
theorem sz_ok : ∀ ns : List Nat, (∀ n ∈ ns, n ≤ 1000) → (sz ns).ok true ∧ (sz ns).dp = 0 ∧ (sz ns).len = ns.length ∧ (sz ns).labs = [] ∧ (sz ns).low 6 ∧ (sz ns).cnt = ns.length
  | [], _ => ⟨trivial, rfl, rfl, rfl, trivial, rfl⟩
  | n :: r, h => by
    obtain ⟨a, b, c, d, e, f⟩ := sz_ok r fun k hk => h k (by simp [hk])
    exact ⟨⟨Nat.le_trans (h n (by simp)) (by decide), a⟩, by simpa only [sz, T.dp] using b, by simp only [sz, T.len, c, List.length_cons], by simpa only [sz, T.labs] using d, e, by simp only [sz, T.cnt, f, List.length_cons]⟩
section
variable {m : Nat} {s : Sl} {o5 o6 : Option Sl} {ps : List PV}
theorem w_loop : ∀ (n i m : Nat) (t : T) (s : Sl) (p2 o5 o6 : Option Sl), i + n ≤ 100 → Wd i t → Si m s → m + 3 * n < 10 ^ 90 →
    ∃ (t' : T) (s' : Sl) (q2 p5 p6 : Option Sl), Wd (i + n) t' ∧ Si (m + 3 * n) s' ∧ forS (tgN 2) g_l_wide_4 ((List.range' i n).map fun j => I ((j : Nat) : Int)) (vE s p2 t.enc o5 o6) = .nx (vE s' q2 t'.enc p5 p6)
  | 0, i, m, t, s, p2, o5, o6, _, W, h, _ => ⟨t, s, p2, o5, o6, W, h, rfl⟩
  | n + 1, i, m, t, s, p2, o5, o6, hi, W, h, hm => by
    obtain ⟨k, e, s1, hn, k1, k3, h1, e2⟩ := w2 (i := i) (ps := t.enc) (o6 := o6) h (by omega)
    obtain ⟨t2, s2, W2, h2, e3⟩ := w3 (o5 := some (.fz (tx (wn i)))) W (by omega) hn k1 k3 h1 (by omega)
    have e1 := w1 (s := s) (o5 := o5) (o6 := o6) (ps := t.enc) (i := i) (by omega)
    have eT : g_l_wide_4 (vE s (some (.fz (I i))) t.enc o5 o6) = _ := seq_nx e1 (seq_nx e2 e3)
    obtain ⟨t3, s3, q2, p5, p6, W3, h3, e4⟩ := w_loop n (i + 1) (m + 2 + 1) t2 s2 (some (.fz (I i))) _ _ (by omega) W2 h2 (by omega)
    refine ⟨t3, s3, q2, p5, p6, by rw [show i + (n + 1) = i + 1 + n by omega]; exact W3, h3.mono (by omega), ?_⟩
    rw [List.range'_succ, List.map_cons, forS_nx (ρ1 := vE s (some (.fz (I i))) t.enc o5 o6) rfl eT]
    exact e4
theorem sz_lc : ∀ (qs acc : List PV) (m : Nat) (s : Sl), Si m s → m + qs.length < 10 ^ 90 →
    ∃ (ns : List Nat) (s' : Sl), ns.length = qs.length ∧ (∀ n ∈ ns, n ≤ 1000) ∧ Si (m + qs.length) s' ∧ lcF (tgN 2) [2] (pur true) x_l_wide_5 qs acc (vE s none ps o5 o6) = .ok (acc ++ ns.map szp) (vE s' none ps o5 o6)
  | [], acc, m, s, h, _ => ⟨[], s, rfl, by simp, h, by simp [lcF, pur]⟩
  | q :: qs, acc, m, s, h, hm => by
    rw [List.length_cons] at hm
    obtain ⟨v1, s1, a1, b1, h1, p1⟩ := grab h (by omega) (b := 5) (by decide) (by decide)
    obtain ⟨n, rfl⟩ := Int.eq_ofNat_of_zero_le a1
    obtain ⟨ns, s2, l2, c2, h2, e2⟩ := sz_lc qs (acc ++ [szp n]) (m + 1) s1 h1 (by omega)
    refine ⟨n :: ns, s2, by simp [l2], fun k hk => ?_, h2.mono (by rw [List.length_cons]; omega), ?_⟩
    · rcases List.mem_cons.mp hk with z | z
      · omega
      · exact c2 k z
    · have e1 : tgN 2 q (vE s none ps o5 o6) = some (vE s (some (.fz q)) ps o5 o6) := rfl
      have e3 : lcTurn (tgN 2) (pur true) x_l_wide_5 q (vE s none ps o5 o6) = .ok (some (szp n)) (vE s1 (some (.fz q)) ps o5 o6) := by
        unfold Gv at p1
        obtain ⟨x, y, z, rfl⟩ := h.ow
        obtain ⟨x1, y1, z1, rfl⟩ := h1.ow
        unfold lcTurn
        rw [e1]
        simp [x_l_wide_5, fnB, plainA, Sl.own, doS, bnd, getV, pur, op2, deref, Sl.pv, lift, sPlus, sSub, sMul, sDiv, sMod, sPow, powC, modC, oor, sAdd, sI, sIc, fnR, outs, seq, nxt, unpS, tgT, tgs, tgN, ifS, tupV, lstV, frzs, frz, sIx, sLe, sLt, sGt, sGe, sAnd, toB, atI, ixN, setS, setIx, setFld, putN, orT, andV, andT, isiV, PV.kd, fldV, ownsA, chkI, chkN, chkK, parS, pass1, p1, szp]
      have w : wipeE (vE s1 (some (.fz q)) ps o5 o6) [2] = vE s1 none ps o5 o6 := rfl
      rw [lcF]
      simp only [e3, Option.toList, w]
      rw [e2]
      simp
theorem callV_wn {F : Fn} {u : Sl} {ρ : B.Env} {j : Nat} : callV [true, false] F [.vr j, .nw u] ρ = cw ρ[j]? fun s => bk1 j (F [s, .fz u.pv]) ρ := by
  rw [← callV_w1]
  simp only [callV, bnd, pass1, frz, pur]
theorem rng100 : rngL 0 100 = (List.range' 0 100).map fun j => I ((j : Nat) : Int) := by rfl
/-- the wide layout -/
theorem e_wide (h : Si m s) (hm : m + 1000 < 10 ^ 90) : ∃ (t : T) (s' : Sl), Rt t ∧ Si (m + 1000) s' ∧ Gv F_l_wide s [.fz (.tup [I 3, I 40])] (.nw (.ow t.enc)) s' := by
  obtain ⟨t, s1, q2, p5, p6, W, h1, e1⟩ := w_loop 100 0 m .nil s none none none (by decide) Wd.nil h (by omega)
  have W : Wd 100 t := W
  have l1 : t.len = 320 := W.len
  have ew := fun ρ => e_lwords (ρ := ρ) W.ok (by have := W.dp; omega) (by omega)
  have ln : sLen [.lst (t.words.map tx)] = some (.fz (I 320)) := by rw [sLen_lst, List.length_map, T.words_len, l1]; rfl
  obtain ⟨ns, s2, n1, n2, h2, e2⟩ := sz_lc (ps := t.enc) (o5 := p5) (o6 := p6) (rngL 0 80) [] (m + 3 * 100) s1 h1 (by show m + 300 + 80 < _; omega)
  have l80 : (rngL 0 80).length = 80 := rfl
  rw [l80] at n1 h2
  obtain ⟨a, b, c, d, e, f⟩ := sz_ok ns n2
  have cn := W.cnt
  have nd : (t.app (sz ns)).labs.Nodup := by
    rw [T.labs_app, W.labs, d, List.append_nil, List.nodup_iff_pairwise_ne, List.pairwise_map]
    exact List.Pairwise.imp (fun {i j} hij e => by have := wn_inj e; omega) (List.pairwise_lt_range (n := 100))
  have okA := T.ok_app t (sz ns) true W.ok a
  have R : Rt (t.app (sz ns)) := ⟨⟨ok_any okA false, by rw [T.len_app, c]; omega, by rw [T.dp_app, b]; have := W.dp; omega, by rw [ok_nov _ okA]; decide, nd⟩, okA, by rw [T.cnt_app, f]; omega, T.low_app _ _ W.low e⟩
  refine ⟨t.app (sz ns), s2, R, h2.mono (by omega), fun ρ j => ?_⟩
  have te := T.enc_len t
  have z1 := small (t.enc.length + ns.length) (by omega)
  have lc : lcR1 (tgN 2) [2] (pur true) x_l_wide_5 [.fz (I 80)] (vE s1 q2 t.enc p5 p6) = .ok (.nw (.ow (ns.map szp))) (vE s2 none t.enc p5 p6) := by
    have sm : smallI 80 = true := by decide
    show (if smallI 80 then lcN (tgN 2) [2] (pur true) x_l_wide_5 (rngL 0 80) else no) (vE s1 q2 t.enc p5 p6) = _
    rw [if_pos sm]
    have w : wipeE (vE s1 q2 t.enc p5 p6) [2] = vE s1 none t.enc p5 p6 := rfl
    unfold lcN
    rw [if_pos (small _ (by rw [l80]; decide)), w, e2]
    rfl
  have ea := T.enc_app t (sz ns)
  rw [sz_enc] at ea
  rw [ea]
  have k1 : g_l_wide_6 [some s, some (.fz (.tup [I 3, I 40])), none, none, none, none, none] = .nx (vE s none [] none none) := by
    have ks := k_small
    simp only [g_l_wide_6, ks]
    simp [fnB, plainA, Sl.own, doS, bnd, getV, pur, op2, deref, Sl.pv, lift, sPlus, sSub, sMul, sDiv, sMod, sPow, powC, modC, oor, sAdd, sI, sIc, fnR, outs, seq, nxt, unpS, tgT, tgs, tgN, ifS, tupV, lstV, frzs, frz, sIx, sLe, sLt, sGt, sGe, sAnd, toB, atI, ixN, setS, setIx, setFld, putN, orT, andV, andT, isiV, PV.kd, fldV, ownsA, chkI, chkN, chkK, parS, pass1]
  have k2 : (doS (bnd (pur (EV.fz (.at (.int 100)))) fun x => bnd (pur []) fun xs => pur (x :: xs)) fun xs => forR1_ (tgN 2) g_l_wide_4 xs) (vE s none [] none none) = .nx (vE s1 q2 t.enc p5 p6) := by
    have e0 : (bnd (pur (EV.fz (.at (.int 100)))) fun x => bnd (pur []) fun xs => pur (x :: xs)) (vE s none [] none none) = .ok [.fz (I 100)] (vE s none [] none none) := rfl
    rw [doS_for e0 (by decide), rng100]
    exact e1
  have k3 : g_l_wide_7 (vE s1 q2 t.enc p5 p6) = .rt (.nw (.ow (t.enc ++ ns.map szp))) (vE s2 none t.enc p5 p6) := by
    have el : (ns.map szp).length = ns.length := List.length_map _
    generalize ns.map szp = sp at *
    generalize hT : tgN 2 = T2 at *
    simp only [g_l_wide_7]
    simp [fnB, plainA, Sl.own, doS, bnd, getV, pur, op2, deref, Sl.pv, lift, sPlus, sSub, sMul, sDiv, sMod, sPow, powC, modC, oor, sAdd, sI, sIc, fnR, outs, seq, nxt, unpS, tgT, tgs, ifS, tupV, lstV, frzs, frz, sIx, sLe, sLt, sGt, sGe, sAnd, toB, atI, ixN, setS, setIx, setFld, putN, orT, andV, andT, isiV, PV.kd, fldV, ownsA, chkI, chkN, chkK, parS, pass1, hT, ew, ln, lc, bltV, derefs, sCatS_lst, sCatL, el, z1]
  have fin := seq_nx k1 (seq_nx k2 k3)
  have fin' : g_l_wide [some s, some (.fz (.tup [I 3, I 40])), none, none, none, none, none] = _ := fin
  obtain ⟨x, y, z, rfl⟩ := h.ow
  obtain ⟨x2, y2, z2, rfl⟩ := h2.ow
  generalize t.enc ++ ns.map szp = rs at *
  simp only [F_l_wide]
  simp [fnB, plainA, Sl.own]
  rw [fin']
  simp [fnR, outs, ownsA, Sl.own]
end
end L

set_option Elab.async false
set_option linter.all false
set_option maxRecDepth 100000
set_option maxHeartbeats 4000000
namespace L
open PySem L2 B
/-! ### the law -/
def nm0 : List (List Nat) := [[97], [98], [97, 98], [98, 97], [120], [121], [120, 120], [97, 98, 99, 100, 101, 102, 103, 104], [97, 98, 99, 100, 101, 102, 103, 105], [122], [114, 101, 99], [115, 105, 122, 101], [101, 110, 100], [113], [122, 122], [97, 97]]
theorem e_lnames {ρ : B.Env} : bk0 (F_l_names []) ρ = .ok (.nw (.ow (nm0.map tx))) ρ := by rfl
theorem nm0_lab : ∀ w ∈ nm0, lab w := by
  intro w hw
  have this : ∀ v ∈ nm0, (decide (1 ≤ v.length) && (decide (v.length ≤ 8) && v.all sml)) = true := by decide
  have q := this w hw
  rw [Bool.and_eq_true, Bool.and_eq_true, decide_eq_true_eq, decide_eq_true_eq] at q
  exact q
theorem nm0_nodup : nm0.Nodup := by decide
/-- drawn nodes are a layout -/
theorem Nd.rt {K deep : Nat} {nm' : List (List Nat)} {t : T} (h : Nd K deep nm0 nm' t) (hd : deep ≤ 12) (hK : K ≤ 6) (hc : t.cnt ≤ 150) : Rt t := by
  have hl := h.len
  have nd : t.labs.Nodup := by
    rw [List.nodup_iff_count]
    intro w
    have q := h.few w
    have := (List.nodup_iff_count.mp nm0_nodup) w
    omega
  have lw : ∀ {a b : Nat} (t : T), a ≤ b → t.low a → t.low b := by
    intro a b t hab
    induction t with
    | nil => exact fun _ => trivial
    | size n r ih => exact ih
    | align k r ih => exact fun z => ⟨Nat.le_trans z.1 hab, ih z.2⟩
    | label s r ih => exact ih
    | rep n b r ihb ihr => exact fun z => ⟨ihb z.1, ihr z.2⟩
    | both x y r ihx ihy ihr => exact fun z => ⟨ihx z.1, ihy z.2.1, ihr z.2.2⟩
  exact ⟨⟨ok_any h.ok false, by omega, Nat.le_trans h.dp hd, by rw [ok_nov _ h.ok]; decide, nd⟩, h.ok, by omega, lw t hK h.low⟩
section
variable {F : Fn} {s s' u u' : Sl} {p p1 p2 p4 : PV} {q1 q2 q4 : Option Sl} {ρ : B.Env} {j : Nat}
theorem callV_5n (h0 : ρ[j]? = some (some s)) (e : F [s, .fz p1, .fz p2, u, .fz p4] = .ok (.fz p) [some s', q1, q2, some u', q4]) :
    callV [true, false, false, true, false] F [.vr j, .fz p1, .fz p2, .nw u, .fz p4] ρ = .ok (.fz p) (ρ.set j (some s')) := by
  simp [callV, bnd, pass1, pur, frz, slsOf, slOf, h0, vrIx, e, back]
  show ([] : List Nat).Nodup
  decide
end
section
variable {m : Nat} {s : Sl} {o0 o1 o2 o3 o4 o5 : Option Sl} {ns : List Int}
theorem doS_forL {a : M EV} {E : B.Env} {ps : List PV} {tg : TgS} {body : MS} (e : a E = .ok (.nw (.ow ps)) E) : (doS a fun x => forM_ itemsL tg body x) E = forS tg body ps E := by
  simp only [doS, e, forM_, itemsL, frz, Sl.pv]
def cC : Nat := 200000000
theorem law1 {most : Nat} (hmost : most ≤ 150) (h : Si m s) (hm : m + cC < 10 ^ 90) : ∃ s', Si (m + cC) s' ∧ g_law_1 [o0, o1, some s, o3, o4, some (.fz (I most))] = .nx [o0, o1, some s', o3, o4, some (.fz (I most))] := by
  have hC : 150000000 ≤ cC := by decide
  obtain ⟨v, s1, v0, v2, h1, p1⟩ := grab h (by omega) (b := 2) (by decide) (by decide)
  obtain ⟨K, K1, K6, eK⟩ : ∃ K : Nat, 0 < K ∧ K ≤ 6 ∧ sIx (.lst [I 6, I 3]) (I v) = some (.fz (I K)) := by
    have : v = 0 ∨ v = 1 := by omega
    rcases this with rfl | rfl
    · exact ⟨6, by decide, by decide, rfl⟩
    · exact ⟨3, by decide, by decide, rfl⟩
  have q3 : qn 3 = 100000000 := by decide
  obtain ⟨t, s2, nm', P, tc, nl, h2, e⟩ := nd_all 8 3 most (m + 1) K 40 nm0 s1 (by decide) (by decide) (by omega) K1 (by omega) (by decide) (by decide) h1 (by omega) nm0_lab (by decide)
  have R := P.rt (by decide) K6 (by omega)
  obtain ⟨s3, h3, p3⟩ := e_right R h2 (by omega)
  refine ⟨s3, h3.mono (by omega), ?_⟩
  have e' : F_l_nodes [s1, .fz (I most), .fz (I 3), .ow (nm0.map tx), .fz (.tup [I K, I 40])] = _ := e
  have cv := fun (ρ : B.Env) h0 => callV_5n (ρ := ρ) (j := 2) h0 e'
  have en := fun ρ => e_lnames (ρ := ρ)
  unfold Gv at p1 p3
  obtain ⟨x, y, z, rfl⟩ := h.ow
  obtain ⟨x1, y1, z1, rfl⟩ := h1.ow
  obtain ⟨x2, y2, z2, rfl⟩ := h2.ow
  obtain ⟨x3, y3, z3, rfl⟩ := h3.ow
  have c0 : ∀ ρ, callV [] F_l_names [] ρ = .ok (.nw (.ow (nm0.map tx))) ρ := fun ρ => by rfl
  generalize nm0.map tx = nms at *
  simp only [g_law_1]
  simp [fnB, plainA, Sl.own, doS, bnd, getV, pur, op2, deref, Sl.pv, lift, sPlus, sSub, sMul, sDiv, sMod, sPow, powC, modC, oor, sAdd, sI, sIc, fnR, outs, seq, nxt, unpS, tgT, tgs, tgN, ifS, tupV, lstV, frzs, frz, sLe, sLt, sGt, sGe, sAnd, toB, atI, ixN, setS, setIx, setFld, putN, orT, andV, andT, isiV, PV.kd, fldV, ownsA, chkI, chkN, chkK, parS, pass1, c0, p1, eK, cv, p3]
theorem law1j {i : Int} {most : Nat} (hi : i = (most : Int)) (hmost : most ≤ 150) (h : Si m s) (hm : m + cC < 10 ^ 90) : ∃ s', Si (m + cC) s' ∧ g_law_1 [o0, o1, some s, o3, o4, some (.fz (I i))] = .nx [o0, o1, some s', o3, o4, some (.fz (I i))] := by
  subst hi
  exact law1 hmost h hm
theorem lawA (h : Si m s) (hm : m + cC + cC + cC < 10 ^ 90) : ∃ s1 s2 s3, Si (m + cC + cC + cC) s3 ∧ g_law_1 [o0, o1, some s, o3, o4, some (.fz (I 150))] = .nx [o0, o1, some s1, o3, o4, some (.fz (I 150))] ∧ g_law_1 [o0, o1, some s1, o3, o4, some (.fz (I 20))] = .nx [o0, o1, some s2, o3, o4, some (.fz (I 20))] ∧ g_law_1 [o0, o1, some s2, o3, o4, some (.fz (I 6))] = .nx [o0, o1, some s3, o3, o4, some (.fz (I 6))] := by
  obtain ⟨s1, h1, e1⟩ := law1j (o0 := o0) (o1 := o1) (o3 := o3) (o4 := o4) (most := 150) (i := 150) rfl (by decide) h (by omega)
  obtain ⟨s2, h2, e2⟩ := law1j (o0 := o0) (o1 := o1) (o3 := o3) (o4 := o4) (most := 20) (i := 20) rfl (by decide) h1 (by omega)
  obtain ⟨s3, h3, e3⟩ := law1j (o0 := o0) (o1 := o1) (o3 := o3) (o4 := o4) (most := 6) (i := 6) rfl (by decide) h2 hm
  exact ⟨s1, s2, s3, h3, e1, e2, e3⟩
theorem law2 (h : Si m s) (hm : m + cC + cC + cC < 10 ^ 90) : ∃ s' q5, Si (m + cC + cC + cC) s' ∧ g_law_2 [o0, o1, some s, o3, o4, o5] = .nx [o0, o1, some s', o3, o4, q5] := by
  obtain ⟨s1, s2, s3, h3, e1, e2, e3⟩ := lawA (o0 := o0) (o1 := o1) (o3 := o3) (o4 := o4) h hm
  refine ⟨s3, some (.fz (I 6)), h3, ?_⟩
  have e0 : (bnd (bnd (pur (EV.fz (.at (.int 150)))) fun x => bnd (bnd (pur (.fz (.at (.int 20)))) fun x => bnd (bnd (pur (.fz (.at (.int 6)))) fun x => bnd (pur []) fun xs => pur (x :: xs)) fun xs => pur (x :: xs)) fun xs => pur (x :: xs)) lstV) [o0, o1, some s, o3, o4, o5] = .ok (.nw (.ow [I 150, I 20, I 6])) [o0, o1, some s, o3, o4, o5] := by
    simp [bnd, pur, lstV, frzs, frz]
  have f1 := forS_nx (t := tgN 5) (ps := [I 20, I 6]) (p := I 150) (ρ := [o0, o1, some s, o3, o4, o5]) (ρ1 := [o0, o1, some s, o3, o4, some (.fz (I 150))]) rfl e1
  have f2 := forS_nx (t := tgN 5) (ps := [I 6]) (p := I 20) (ρ := [o0, o1, some s1, o3, o4, some (.fz (I 150))]) (ρ1 := [o0, o1, some s1, o3, o4, some (.fz (I 20))]) rfl e2
  have f3 := forS_nx (t := tgN 5) (ps := []) (p := I 6) (ρ := [o0, o1, some s2, o3, o4, some (.fz (I 20))]) (ρ1 := [o0, o1, some s2, o3, o4, some (.fz (I 6))]) rfl e3
  rw [g_law_2, doS_forL e0, f1, f2, f3]
  rfl
theorem law3 {k : Nat} (hk : k < 64) : ∃ p2 p5, g_law_3 [some (.fz (.scr ns)), some (.fz (I k)), o2, o3, o4, o5] = .nx [some (.fz (.scr ns)), some (.fz (I k)), p2, o3, o4, p5] := by
  obtain ⟨s, h, e⟩ := e_silo (ns := ns) hk
  obtain ⟨s', q5, h', e2⟩ := law2 (o0 := some (.fz (.scr ns))) (o1 := some (.fz (I k))) (o3 := o3) (o4 := o4) (o5 := o5) h (by decide)
  refine ⟨some s', q5, ?_⟩
  have e1 : (doS (bnd (bnd (getV 0) fun x => bnd (bnd (getV 1) fun x => bnd (pur []) fun xs => pur (x :: xs)) fun xs => pur (x :: xs)) fun xs => callV [false, false] F_l_silo xs) fun v => setS true 2 v) [some (.fz (.scr ns)), some (.fz (I k)), o2, o3, o4, o5] = .nx [some (.fz (.scr ns)), some (.fz (I k)), some s, o3, o4, o5] := by
    obtain ⟨x, y, z, rfl⟩ := h.ow
    simp [fnB, plainA, Sl.own, doS, bnd, getV, pur, op2, deref, Sl.pv, lift, sPlus, sSub, sMul, sDiv, sMod, sPow, powC, modC, oor, sAdd, sI, sIc, fnR, outs, seq, nxt, unpS, tgT, tgs, tgN, ifS, tupV, lstV, frzs, frz, sIx, sLe, sLt, sGt, sGe, sAnd, toB, atI, ixN, setS, setIx, setFld, putN, orT, andV, andT, isiV, PV.kd, fldV, ownsA, chkI, chkN, chkK, parS, pass1, e]
  exact seq_nx e1 e2
theorem law4 (hl : ns.length ≤ 63) : ∃ p1 p2 p5, g_law_4 [some (.fz (.scr ns)), o1, o2, o3, o4, o5] = .nx [some (.fz (.scr ns)), p1, p2, o3, o4, p5] := by
  obtain ⟨r, h1, hr, er⟩ : ∃ r : Int, 1 ≤ r ∧ r ≤ 6 ∧ (bnd (bnd (bnd (pur (EV.fz (.at (.int 1)))) fun x => bnd (bnd (bnd (bnd (pur (.fz (.at (.int 6)))) fun x => bnd (bnd (bnd (bnd (getV 0) fun x => bnd (pur []) fun xs => pur (x :: xs)) fun xs => bltV sLen xs) fun x => bnd (pur []) fun xs => pur (x :: xs)) fun xs => pur (x :: xs)) fun xs => bltV sMin xs) fun x => bnd (pur []) fun xs => pur (x :: xs)) fun xs => pur (x :: xs)) fun xs => bltV sMax xs) fun x => bnd (pur []) fun xs => pur (x :: xs)) [some (.fz (.scr ns)), o1, o2, o3, o4, o5] = .ok [.fz (I r)] [some (.fz (.scr ns)), o1, o2, o3, o4, o5] := by
    refine ⟨max 1 (min 6 (ns.length : Int)), by omega, by omega, ?_⟩
    have e1 : max 1 (min 6 (ns.length : Int)) = if 1 < (if (ns.length : Int) < 6 then (ns.length : Int) else 6) then (if (ns.length : Int) < 6 then (ns.length : Int) else 6) else 1 := by split <;> split <;> omega
    rw [e1]
    simp [fnB, plainA, Sl.own, doS, bnd, getV, pur, op2, deref, Sl.pv, lift, sPlus, sSub, sMul, sDiv, sMod, sPow, powC, modC, oor, sAdd, sI, sIc, fnR, outs, seq, nxt, unpS, tgT, tgs, tgN, ifS, tupV, lstV, frzs, frz, sIx, sLe, sLt, sGt, sGe, sAnd, toB, atI, ixN, setS, setIx, setFld, putN, orT, andV, andT, isiV, PV.kd, fldV, ownsA, chkI, chkN, chkK, parS, pass1, bltV, derefs, sLen, sLenL, sMin, sMax, s2I]
  have sm : smallI r = true := by
    unfold smallI
    rw [Bool.and_eq_true]
    exact ⟨decide_eq_true (by omega), decide_eq_true (by omega)⟩
  obtain ⟨ρ', e, q1, q2, q5, rfl⟩ := B.forS_inv (t := tgN 1) (body := g_law_3) (fun ρ => ∃ p1 p2 p5, ρ = [some (.fz (.scr ns)), p1, p2, o3, o4, p5]) (rngL 0 r) [some (.fz (.scr ns)), o1, o2, o3, o4, o5] ⟨_, _, _, rfl⟩ fun p hp ρ hJ => by
    obtain ⟨q1, q2, q5, rfl⟩ := hJ
    rw [rng0] at hp
    obtain ⟨j, hj, rfl⟩ := List.mem_map.mp hp
    obtain ⟨j0, j1, k, rfl⟩ := R0_mem hj
    obtain ⟨p2, p5, e⟩ := law3 (ns := ns) (k := k) (o2 := q2) (o3 := o3) (o4 := o4) (o5 := q5) (by omega)
    exact ⟨_, _, rfl, e, _, _, _, rfl⟩
  refine ⟨q1, q2, q5, ?_⟩
  rw [g_law_4, doS_for er sm]
  exact e
theorem law5 : ∃ s, Si 0 s ∧ g_law_5 [some (.fz (.scr ns)), o1, o2, o3, o4, o5] = .nx [some (.fz (.scr ns)), o1, some s, o3, o4, o5] := by
  obtain ⟨s, h, e⟩ := e_silo (ns := ns) (k := 0) (by decide)
  have e' : ∀ ρ, bk0 (F_l_silo [.fz (.scr ns), .fz (I 0)]) ρ = .ok (.nw s) ρ := e
  refine ⟨s, h, ?_⟩
  obtain ⟨x, y, z, rfl⟩ := h.ow
  simp only [g_law_5]
  simp [fnB, plainA, Sl.own, doS, bnd, getV, pur, op2, deref, Sl.pv, lift, sPlus, sSub, sMul, sDiv, sMod, sPow, powC, modC, oor, sAdd, sI, sIc, fnR, outs, seq, nxt, unpS, tgT, tgs, tgN, ifS, tupV, lstV, frzs, frz, sIx, sLe, sLt, sGt, sGe, sAnd, toB, atI, ixN, setS, setIx, setFld, putN, orT, andV, andT, isiV, PV.kd, fldV, ownsA, chkI, chkN, chkK, parS, pass1, e']
theorem law6 (h : Si m s) (hm : m + 2000 < 10 ^ 90) : ∃ s', Si (m + 2000) s' ∧ g_law_6 [o0, o1, some s, o3, o4, o5] = .nx [o0, o1, some s', o3, o4, o5] := by
  obtain ⟨t, s1, R, h1, p1⟩ := e_wide h (by omega)
  obtain ⟨s2, h2, p2⟩ := e_right R h1 (by omega)
  refine ⟨s2, h2.mono (by omega), ?_⟩
  unfold Gv at p1 p2
  obtain ⟨x, y, z, rfl⟩ := h.ow
  obtain ⟨x1, y1, z1, rfl⟩ := h1.ow
  obtain ⟨x2, y2, z2, rfl⟩ := h2.ow
  generalize t.enc = te at *
  simp only [g_law_6]
  simp [fnB, plainA, Sl.own, doS, bnd, getV, pur, op2, deref, Sl.pv, lift, sPlus, sSub, sMul, sDiv, sMod, sPow, powC, modC, oor, sAdd, sI, sIc, fnR, outs, seq, nxt, unpS, tgT, tgs, tgN, ifS, tupV, lstV, frzs, frz, sIx, sLe, sLt, sGt, sGe, sAnd, toB, atI, ixN, setS, setIx, setFld, putN, orT, andV, andT, isiV, PV.kd, fldV, ownsA, chkI, chkN, chkK, parS, pass1, p1, callV_wn, p2]
end
def T1 : T := .align 1 (.size 1 (.align 2 .nil))
def T2 : T := .size 7 (.label [97] .nil)
theorem T1_lay : Lay T1 := ⟨⟨by decide, by decide, by decide, by decide, by decide, trivial⟩, by decide, by decide, by decide, by decide⟩
theorem T2_lay : Lay T2 := ⟨⟨by decide, ⟨by decide, by decide, by decide⟩, trivial⟩, by decide, by decide, by decide, by decide⟩
theorem T1_text : Str.ofString "@2 1 @4" = SX.S T1.text := by
  have h1 : TL.numL 2 = [50] := TL.numL_lt (by decide)
  have h2 : TL.numL 1 = [49] := TL.numL_lt (by decide)
  have h3 : TL.numL 4 = [52] := TL.numL_lt (by decide)
  have e : T1.text = [64, 50, 32, 49, 32, 64, 52] := by
    simp [T1, T.text, T.words, TL.joinL, h1, h2, h3]
  rw [e]
  rfl
theorem T2_text : Str.ofString "7 a:" = SX.S T2.text := by
  have h1 : TL.numL 7 = [55] := TL.numL_lt (by decide)
  have e : T2.text = [55, 32, 97, 58] := by
    simp [T2, T.text, T.words, TL.joinL, h1]
  rw [e]
  rfl
section
variable {o0 o1 o2 o3 o4 o5 : Option Sl}
theorem tr1 : T1.trip one = ⟨4, 2, 0⟩ := by decide
theorem tr2 : T2.trip one = ⟨1, 0, 7⟩ := by decide
theorem lawO : (doS (bnd (bnd (pur (EV.fz (.at (.str "@2 1 @4")))) fun x => bnd (pur []) fun xs => pur (x :: xs)) fun xs => makeV 10 [false] F_Layout_init xs) fun v => setS false 3 v) [o0, o1, o2, o3, o4, o5] = .nx [o0, o1, o2, some (.fz T1.lay), o4, o5] := by
  have ly := fun ρ => e_layout (ρ := ρ) T1_lay
  simp only [T1_text]
  simp [fnB, plainA, Sl.own, doS, bnd, getV, pur, op2, deref, Sl.pv, lift, sPlus, sSub, sMul, sDiv, sMod, sPow, powC, modC, oor, sAdd, sI, sIc, fnR, outs, seq, nxt, unpS, tgT, tgs, tgN, ifS, tupV, lstV, frzs, frz, sIx, sLe, sLt, sGt, sGe, sAnd, toB, atI, ixN, setS, setIx, setFld, putN, orT, andV, andT, isiV, PV.kd, fldV, ownsA, chkI, chkN, chkK, parS, pass1, ly]
theorem law7 : g_law_7 [o0, o1, o2, some (.fz T1.lay), o4, o5] = .nx [o0, o1, o2, some (.fz T1.lay), some (.fz (.lst [.tup [I 1, I 4], .tup [I 2, I 1, I 4], .tup [I 0, I 1, I 1]])), o5] := by
  have ly := fun ρ => e_layout (ρ := ρ) T2_lay
  have e1 := fun ρ => e_padding_range (ρ := ρ) T1_lay rfl
  have e2 := fun ρ => e_swp (ρ := ρ) (y := 1) T1_lay rfl
  have e3 := fun ρ => e_swp (ρ := ρ) (y := 0) T2_lay rfl
  have l1 : T1.least = 1 := by unfold T.least; rw [tr1]; decide
  have l2 : T2.least = 0 := by unfold T.least; rw [tr2]; decide
  rw [tr1, l1] at e1 e2
  rw [tr2, l2] at e3
  have x1 : ∀ ρ, bk0 (F_padding_range [.fz T1.lay]) ρ = .ok (.fz (.tup [I 1, I 4])) ρ := e1
  have x2 : ∀ ρ, bk0 (F_starts_with_padding [.fz T1.lay, .fz (I 1)]) ρ = .ok (.fz (.tup [I 2, I 1, I 4])) ρ := e2
  have x3 : ∀ ρ, bk0 (F_starts_with_padding [.fz T2.lay, .fz (I 0)]) ρ = .ok (.fz (.tup [I 0, I 1, I 1])) ρ := e3
  simp only [g_law_7, T2_text]
  generalize hT1 : T1.lay = y1 at *
  simp [fnB, plainA, Sl.own, doS, bnd, getV, pur, op2, deref, Sl.pv, lift, sPlus, sSub, sMul, sDiv, sMod, sPow, powC, modC, oor, sAdd, sI, sIc, fnR, outs, seq, nxt, unpS, tgT, tgs, tgN, ifS, tupV, lstV, frzs, frz, sIx, sLe, sLt, sGt, sGe, sAnd, toB, atI, ixN, setS, setIx, setFld, putN, orT, andV, andT, isiV, PV.kd, fldV, ownsA, chkI, chkN, chkK, parS, pass1, x1, x2, x3, ly]
theorem law8 : g_law_8 [o0, o1, o2, o3, some (.fz (.lst [.tup [I 1, I 4], .tup [I 2, I 1, I 4], .tup [I 0, I 1, I 1]])), o5] = .rt (.fz (.at (.bl true))) [o0, o1, o2, o3, some (.fz (.lst [.tup [I 1, I 4], .tup [I 2, I 1, I 4], .tup [I 0, I 1, I 1]])), o5] := by
  have e : sEq (.lst [.tup [I 1, I 4], .tup [I 2, I 1, I 4], .tup [I 0, I 1, I 1]]) (.lst [.tup [I 1, I 4], .tup [I 2, I 1, I 4], .tup [I 0, I 1, I 1]]) = some (.fz (.at (.bl true))) := by
    simp [sEq, oor, sEqA, sEqD, pd, pds, SeqAt.shaped, PyData.canLay0, PyData.canLayAll0, PyData.depth, PyData.depthAll, PyData.eqv, PyData.eqvAll]
  simp only [g_law_8]
  simp [fnB, plainA, Sl.own, doS, bnd, getV, pur, op2, deref, Sl.pv, lift, sPlus, sSub, sMul, sDiv, sMod, sPow, powC, modC, oor, sAdd, sI, sIc, fnR, outs, seq, nxt, unpS, tgT, tgs, tgN, ifS, tupV, lstV, frzs, frz, sIx, sLe, sLt, sGt, sGe, sAnd, toB, atI, ixN, setS, setIx, setFld, putN, orT, andV, andT, isiV, PV.kd, fldV, ownsA, chkI, chkN, chkK, parS, pass1, e]
end
theorem law_true (ns : List Int) (hl : ns.length ≤ 63) : ∃ ρ, F_law [.fz (.scr ns)] = .ok (.fz (.at (.bl true))) ρ := by
  obtain ⟨p1, p2, p5, e4⟩ := law4 (ns := ns) (o1 := none) (o2 := none) (o3 := none) (o4 := none) (o5 := none) hl
  obtain ⟨s, h, e5⟩ := law5 (ns := ns) (o1 := p1) (o2 := p2) (o3 := none) (o4 := none) (o5 := p5)
  obtain ⟨s', h', e6⟩ := law6 (o0 := some (.fz (.scr ns))) (o1 := p1) (o3 := none) (o4 := none) (o5 := p5) h (by decide)
  have e7 := lawO (o0 := some (.fz (.scr ns))) (o1 := p1) (o2 := some s') (o3 := none) (o4 := none) (o5 := p5)
  have e8 := law7 (o0 := some (.fz (.scr ns))) (o1 := p1) (o2 := some s') (o4 := none) (o5 := p5)
  have e9 := law8 (o0 := some (.fz (.scr ns))) (o1 := p1) (o2 := some s') (o3 := some (.fz T1.lay)) (o5 := p5)
  have fin := seq_nx e4 (seq_nx e5 (seq_nx e6 (seq_nx e7 (seq_nx e8 e9))))
  have fin' : g_law [some (.fz (.scr ns)), none, none, none, none, none] = _ := fin
  refine ⟨[some (.fz (.scr ns))], ?_⟩
  simp only [F_law]
  simp [fnB, plainA, Sl.own]
  rw [fin']
  simp [fnR, outs, ownsA, Sl.own]
end L

set_option Elab.async false
set_option linter.all false
set_option maxRecDepth 100000
set_option maxHeartbeats 4000000
/-! B38: f() -/
namespace B
open PySem L2
section
variable {X : Cx} {N : Nm} {W : WX} {pos p : Pos} {x : Str} {k : Nat} {F : Fn}
theorem be_callG0 (tk : Takes X W) (G : GF X.prog X.w X.K X.mg X.base N x k 0 F) (hr : RmG k X.A) (hg : Gl X x := by rfl) (hdb : (x == ("__debug__" : Str)) = false := by decide) : BE X N W (.Call (.Name x p) [] [] pos) (bnd (pur []) fun xs => callV [] F xs) := by
  obtain ⟨f, fd, ps, G1, G2, G3, G4⟩ := G.ex
  refine pe_weak (pe_callG0 (E := fun σ => WE W σ) G1 hr hg G2 G3 G4 (fun σ => passAt tk σ) hdb) fun σ H Q ⟨ρ, R, r, h⟩ => ?_
  have h' : Pst X.K N (EvR X.K N) W (callV [] F [] ρ) σ H R ρ Q := h
  exact callV_ok (ms := []) (xs := []) (vs := []) (Stp.refl) r ⟨rfl, fun i x v e => by simp at e, fun i j x y a e => by simp at e⟩ h'
end
end B

set_option Elab.async false
set_option linter.all false
set_option maxRecDepth 100000
set_option maxHeartbeats 4000000
namespace L
open PySem L2 B
structure Txt (K : PySem.W.Frag) (mg : Str → Option Value) (N : Nm) : Prop where
  n_len : mg "len" = none
  n_max : mg "max" = none
  c_MOST_DIGITS : ∃ t, mg "MOST_DIGITS" = some (.int 31 t)
  n_all : mg "all" = none
  c_DIGITS : ∃ t, mg "DIGITS" = some (.str "0123456789" t)
  n_int : mg "int" = none
  n_isinstance : mg "isinstance" = none
  isi_int : IsiF K N (.type "int") isi_int
  isi_bool : IsiF K N (.type "bool") isi_bool
  n_bool : mg "bool" = none
  c_MOST_ALIGNMENT : ∃ t, mg "MOST_ALIGNMENT" = some (.int 1152921504606846976 t)
  isi_str : IsiF K N (.type "str") isi_str
  n_str : mg "str" = none
  c_SMALL : ∃ t, mg "SMALL" = some (.str "abcdefghijklmnopqrstuvwxyz" t)
  c_MOST_SIZE : ∃ t, mg "MOST_SIZE" = some (.int 1000000000000000000000000000000 t)
  c_MOST_WORDS : ∃ t, mg "MOST_WORDS" = some (.int 400 t)
  c_MOST_OPEN : ∃ t, mg "MOST_OPEN" = some (.int 12 t)
  c_MOST_OVERLAYS : ∃ t, mg "MOST_OVERLAYS" = some (.int 6 t)
  c_MOST_TIMES : ∃ t, mg "MOST_TIMES" = some (.int 1000000000000000000000000000000 t)
  n_enumerate : mg "enumerate" = none
  n_tuple : mg "tuple" = none
  fl_own_text : N.fl 3 = "own_text"
  na_own_text : NoAttr K (N.cl 10) "own_text"
  fl_own_words : N.fl 4 = "own_words"
  na_own_words : NoAttr K (N.cl 10) "own_words"
  fl_own_nodes : N.fl 5 = "own_nodes"
  na_own_nodes : NoAttr K (N.cl 10) "own_nodes"
  fl_own_labels : N.fl 6 = "own_labels"
  na_own_labels : NoAttr K (N.cl 10) "own_labels"
  fl_own_alignment : N.fl 7 = "own_alignment"
  na_own_alignment : NoAttr K (N.cl 10) "own_alignment"
  n_range : mg "range" = none
  n_sum : mg "sum" = none
  isi_Layout : IsiF K N (.ref (N.cl 10)) isi_Layout
  mg_Layout : mg "Layout" = some (.ref (N.cl 10))
  c_SAME : ∃ c, mg "SAME" = some (.ref c) ∧ ∀ R, Rep K N R (.tup [.at (.int 1), .at (.int 0), .at (.int 0)]) (.ref c)
  n_repr : mg "repr" = none
  n_min : mg "min" = none
  n_sorted : mg "sorted" = none
  n_list : mg "list" = none
  isi_tuple : IsiF K N (.type "tuple") isi_tuple
  n_set : mg "set" = none
  cl_Layout : Cls K (N.cl 10)
section
variable {Pg : Program} {w : World} {K : PySem.W.Frag} {mg : Str → Option Value} {base : Heap} {N : Nm}
theorem sc_l_silo : FnScope ["_law_script", "_law_k", "_law_cell"] ["_law_script", "_law_k"] (defScope s_l_silo) := ⟨rfl, rfl, rfl, by decide +kernel, rfl, by decide +kernel, by decide +kernel⟩
theorem ok_l_silo (T : Txt K mg N) (D : GD K "_law_silo" "_law_silo" s_l_silo (fun f => mg "_law_silo" = some (.ref f)))  : GF Pg w K mg base N "_law_silo" 1 2 F_l_silo := by
  have nd := sc_l_silo.nd
  refine gf_mk (k := 0) (P := []) (g := g_l_silo) D sc_l_silo (fun _ _ _ _ _ _ us hl => match us, hl with | [_, _], _ => rfl) (fun f cdv A outer s H E hr tk hp => ?_)
  exact (bss_cons (bs_set false 2 nd be_int) (bss_cons (bs_if (bt_cmp op_lt ops_I0 (be_var 1) (be_callB call_lenB cs_len rfl T.n_len (by decide +kernel) (ba_cons (be_var 0) ba_nil)) (nomark _)) (bss_one (bs_set false 2 nd (be_ix ix_seq os_ix (be_var 0) (be_var 1) (fun _ _ => rfl)))) bss_nil) (bss_one (bs_ret (be_lst (ba_cons (be_callB (call_max2 rfl) cs_2I rfl T.n_max (by decide +kernel) (ba_cons be_int (ba_cons (be_op op_sub ops_I0 (be_var 2) (be_op op_pow os_pow be_int be_int)) ba_nil))) (ba_cons (be_op (op_add.or (op_add_str.or op_cat)) os_plus (be_op (op_add.or (op_add_str.or op_cat)) os_plus (be_op op_mod os_mod (be_var 2) (be_op (op_add.or (op_add_str.or op_cat)) os_plus (be_op op_pow os_pow be_int be_int) be_int)) (be_op op_mulX os_mul be_int (be_var 1))) be_int) (ba_cons be_int ba_nil))))))))
theorem sc_words_of : FnScope ["text"] ["text"] (defScope s_words_of) := ⟨rfl, rfl, rfl, by decide +kernel, rfl, by decide +kernel, by decide +kernel⟩
theorem ok_words_of (T : Txt K mg N) (D : GD K "words_of" "words_of" s_words_of (fun f => mg "words_of" = some (.ref f)))  : GF Pg w K mg base N "words_of" 1 1 F_words_of := by
  have nd := sc_words_of.nd
  refine gf_mk (k := 0) (P := []) (g := g_words_of) D sc_words_of (fun _ _ _ _ _ _ us hl => match us, hl with | [_], _ => rfl) (fun f cdv A outer s H E hr tk hp => ?_)
  exact (bss_one (bs_ret (be_if (bt_cmp (op_ne.or (op_neD hr.units)) os_ne (be_var 0) be_str (nomark _)) (be_split (be_var 0) be_str) (be_lst ba_nil))))
theorem sc_is_decimal : FnScope ["signs", "low", "high", "sign"] ["signs", "low", "high"] (defScope s_is_decimal) := ⟨rfl, rfl, rfl, by decide +kernel, rfl, by decide +kernel, by decide +kernel⟩
theorem ok_is_decimal (T : Txt K mg N) (D : GD K "is_decimal" "is_decimal" s_is_decimal (fun f => mg "is_decimal" = some (.ref f)))  : GF Pg w K mg base N "is_decimal" 1 3 F_is_decimal := by
  have nd := sc_is_decimal.nd
  refine gf_mk (k := 0) (P := []) (g := g_is_decimal) D sc_is_decimal (fun _ _ _ _ _ _ us hl => match us, hl with | [_, _, _], _ => rfl) (fun f cdv A outer s H E hr tk hp => ?_)
  exact (bss_cons (bs_if (bt_w (bw_or (bt_not (bt_chain op_le ops_I0 op_le ops_I0 be_int (be_callB call_lenB cs_len rfl T.n_len (by decide +kernel) (ba_cons (be_var 0) ba_nil)) (be_globI T.c_MOST_DIGITS))) (bw_or1 (bt_not (bt_val (be_callB (cr_all rfl) cs_all rfl T.n_all (by decide +kernel) (ba_cons (be_lcS [("sign", 3)] rfl nd (be_var 0) (by show BlkOk ["signs", "low", "high", "sign"] (defScope s_is_decimal) _ _; exact ⟨rfl, by decide +kernel, by decide +kernel, by decide +kernel, by decide +kernel⟩) (fun _ _ _ _ _ _ hP => (bg_name 3 nd (hP 3 (by decide)))) (fun _ _ _ _ _ => bts_nil) (fun _ _ _ _ _ => (be_cmp op_in_str os_inS (be_var 3) (be_globS T.c_DIGITS) rfl))) ba_nil))))))) (bss_one (bs_ret be_bl)) bss_nil) (bss_one (bs_ret (be_and (be_or (be_cmp (op_eq.or (op_eqD hr.units)) os_eq (be_var 0) be_str (nomark _)) (be_one (be_cmp (op_ne.or (op_neD hr.units)) os_ne (be_ix ix_seq os_ix (be_var 0) be_int (fun _ _ => rfl)) be_str (nomark _)))) (be_one (be_chain op_le ops_I0 op_le ops_I0 (be_var 1) (be_callTy call_intB cs_int rfl T.n_int (by decide +kernel) (ba_cons (be_var 0) ba_nil)) (be_var 2)))))))
theorem sc_is_int : FnScope ["value"] ["value"] (defScope s_is_int) := ⟨rfl, rfl, rfl, by decide +kernel, rfl, by decide +kernel, by decide +kernel⟩
theorem ok_is_int (T : Txt K mg N) (D : GD K "is_int" "is_int" s_is_int (fun f => mg "is_int" = some (.ref f)))  : GF Pg w K mg base N "is_int" 1 1 F_is_int := by
  have nd := sc_is_int.nd
  refine gf_mk (k := 0) (P := []) (g := g_is_int) D sc_is_int (fun _ _ _ _ _ _ us hl => match us, hl with | [_], _ => rfl) (fun f cdv A outer s H E hr tk hp => ?_)
  exact (bss_one (bs_ret (be_and (be_isi (be_var 0) (pe_bltn (v := .ty "int") (u := .type "int") rfl T.n_int (by decide +kernel) rfl) (.ty _) T.isi_int rfl T.n_isinstance) (be_one (be_not (be_isi (be_var 0) (pe_bltn (v := .ty "bool") (u := .type "bool") rfl T.n_bool (by decide +kernel) rfl) (.ty _) T.isi_bool rfl T.n_isinstance))))))
theorem sc_in_range : FnScope ["value", "low", "high"] ["value", "low", "high"] (defScope s_in_range) := ⟨rfl, rfl, rfl, by decide +kernel, rfl, by decide +kernel, by decide +kernel⟩
theorem ok_in_range (T : Txt K mg N) (D : GD K "in_range" "in_range" s_in_range (fun f => mg "in_range" = some (.ref f))) (G_is_int : GF Pg w K mg base N "is_int" 1 1 F_is_int) : GF Pg w K mg base N "in_range" 2 3 F_in_range := by
  have nd := sc_in_range.nd
  refine gf_mk (k := 1) (P := []) (g := g_in_range) D sc_in_range (fun _ _ _ _ _ _ us hl => match us, hl with | [_, _, _], _ => rfl) (fun f cdv A outer s H E hr tk hp => ?_)
  exact (bss_one (bs_ret (be_and (be_callG tk [false] G_is_int (hr.mono (by decide)) (ba_cons (be_var 0) ba_nil)) (be_one (be_chain op_le ops_I0 op_le ops_I0 (be_var 1) (be_var 0) (be_var 2))))))
theorem sc_is_power : FnScope ["value"] ["value"] (defScope s_is_power) := ⟨rfl, rfl, rfl, by decide +kernel, rfl, by decide +kernel, by decide +kernel⟩
theorem ok_is_power (T : Txt K mg N) (D : GD K "is_power" "is_power" s_is_power (fun f => mg "is_power" = some (.ref f))) (G_in_range : GF Pg w K mg base N "in_range" 2 3 F_in_range) : GF Pg w K mg base N "is_power" 3 1 F_is_power := by
  have nd := sc_is_power.nd
  refine gf_mk (k := 2) (P := []) (g := g_is_power) D sc_is_power (fun _ _ _ _ _ _ us hl => match us, hl with | [_], _ => rfl) (fun f cdv A outer s H E hr tk hp => ?_)
  exact (bss_one (bs_ret (be_and (be_callG tk [false, false, false] G_in_range (hr.mono (by decide)) (ba_cons (be_var 0) (ba_cons be_int (ba_cons (be_globI T.c_MOST_ALIGNMENT) ba_nil)))) (be_one (be_cmp (op_eq.or (op_eqD hr.units)) os_eq (be_op op_and ops_I0 (be_var 0) (be_op op_sub ops_I0 (be_var 0) be_int)) be_int (nomark _))))))
theorem sc_is_align_word : FnScope ["word"] ["word"] (defScope s_is_align_word) := ⟨rfl, rfl, rfl, by decide +kernel, rfl, by decide +kernel, by decide +kernel⟩
theorem ok_is_align_word (T : Txt K mg N) (D : GD K "is_align_word" "is_align_word" s_is_align_word (fun f => mg "is_align_word" = some (.ref f))) (G_is_decimal : GF Pg w K mg base N "is_decimal" 1 3 F_is_decimal) (G_is_power : GF Pg w K mg base N "is_power" 3 1 F_is_power) : GF Pg w K mg base N "is_align_word" 4 1 F_is_align_word := by
  have nd := sc_is_align_word.nd
  refine gf_mk (k := 3) (P := []) (g := g_is_align_word) D sc_is_align_word (fun _ _ _ _ _ _ us hl => match us, hl with | [_], _ => rfl) (fun f cdv A outer s H E hr tk hp => ?_)
  exact (bss_one (bs_ret (be_and (be_cmp (op_eq.or (op_eqD hr.units)) os_eq (be_slice (be_var 0) bp_none (bp_some be_int)) be_str (nomark _)) (be_and (be_callG tk [false, false, false] G_is_decimal (hr.mono (by decide)) (ba_cons (be_slice (be_var 0) (bp_some be_int) bp_none) (ba_cons be_int (ba_cons (be_globI T.c_MOST_ALIGNMENT) ba_nil)))) (be_one (be_callG tk [false] G_is_power (hr.mono (by decide)) (ba_cons (be_callTy call_intB cs_int rfl T.n_int (by decide +kernel) (ba_cons (be_slice (be_var 0) (bp_some be_int) bp_none) ba_nil)) ba_nil)))))))
theorem sc_is_letters : FnScope ["value", "sign"] ["value"] (defScope s_is_letters) := ⟨rfl, rfl, rfl, by decide +kernel, rfl, by decide +kernel, by decide +kernel⟩
theorem ok_is_letters (T : Txt K mg N) (D : GD K "is_letters" "is_letters" s_is_letters (fun f => mg "is_letters" = some (.ref f)))  : GF Pg w K mg base N "is_letters" 1 1 F_is_letters := by
  have nd := sc_is_letters.nd
  refine gf_mk (k := 0) (P := []) (g := g_is_letters) D sc_is_letters (fun _ _ _ _ _ _ us hl => match us, hl with | [_], _ => rfl) (fun f cdv A outer s H E hr tk hp => ?_)
  exact (bss_one (bs_ret (be_and (be_isi (be_var 0) (pe_bltn (v := .ty "str") (u := .type "str") rfl T.n_str (by decide +kernel) rfl) (.ty _) T.isi_str rfl T.n_isinstance) (be_and (be_chain op_le ops_I0 op_le ops_I0 be_int (be_callB call_lenB cs_len rfl T.n_len (by decide +kernel) (ba_cons (be_var 0) ba_nil)) be_int) (be_one (be_callB (cr_all rfl) cs_all rfl T.n_all (by decide +kernel) (ba_cons (be_lcS [("sign", 1)] rfl nd (be_var 0) (by show BlkOk ["value", "sign"] (defScope s_is_letters) _ _; exact ⟨rfl, by decide +kernel, by decide +kernel, by decide +kernel, by decide +kernel⟩) (fun _ _ _ _ _ _ hP => (bg_name 1 nd (hP 1 (by decide)))) (fun _ _ _ _ _ => bts_nil) (fun _ _ _ _ _ => (be_cmp op_in_str os_inS (be_var 1) (be_globS T.c_SMALL) rfl))) ba_nil)))))))
theorem sc_is_single : FnScope ["word"] ["word"] (defScope s_is_single) := ⟨rfl, rfl, rfl, by decide +kernel, rfl, by decide +kernel, by decide +kernel⟩
theorem ok_is_single (T : Txt K mg N) (D : GD K "is_single" "is_single" s_is_single (fun f => mg "is_single" = some (.ref f))) (G_is_decimal : GF Pg w K mg base N "is_decimal" 1 3 F_is_decimal) (G_is_align_word : GF Pg w K mg base N "is_align_word" 4 1 F_is_align_word) (G_is_letters : GF Pg w K mg base N "is_letters" 1 1 F_is_letters) : GF Pg w K mg base N "is_single" 5 1 F_is_single := by
  have nd := sc_is_single.nd
  refine gf_mk (k := 4) (P := []) (g := g_is_single) D sc_is_single (fun _ _ _ _ _ _ us hl => match us, hl with | [_], _ => rfl) (fun f cdv A outer s H E hr tk hp => ?_)
  exact (bss_one (bs_ret (be_or (be_callG tk [false, false, false] G_is_decimal (hr.mono (by decide)) (ba_cons (be_var 0) (ba_cons be_int (ba_cons (be_globI T.c_MOST_SIZE) ba_nil)))) (be_or (be_callG tk [false] G_is_align_word (hr.mono (by decide)) (ba_cons (be_var 0) ba_nil)) (be_one (be_and (be_cmp (op_eq.or (op_eqD hr.units)) os_eq (be_slice (be_var 0) (bp_some (be_neg be_int)) bp_none) be_str (nomark _)) (be_one (be_callG tk [false] G_is_letters (hr.mono (by decide)) (ba_cons (be_slice (be_var 0) bp_none (bp_some (be_neg be_int))) ba_nil)))))))))
theorem sc_first_wrong : FnScope ["words", "frames", "overlays", "index", "word", "kind", "filled"] ["words"] (defScope s_first_wrong) := ⟨rfl, rfl, rfl, by decide +kernel, rfl, by decide +kernel, by decide +kernel⟩
theorem ok_first_wrong (T : Txt K mg N) (D : GD K "first_wrong" "first_wrong" s_first_wrong (fun f => mg "first_wrong" = some (.ref f))) (G_is_decimal : GF Pg w K mg base N "is_decimal" 1 3 F_is_decimal) (G_is_single : GF Pg w K mg base N "is_single" 5 1 F_is_single) : GF Pg w K mg base N "first_wrong" 6 1 F_first_wrong := by
  have nd := sc_first_wrong.nd
  refine gf_mk (k := 5) (P := []) (g := g_first_wrong) D sc_first_wrong (fun _ _ _ _ _ _ us hl => match us, hl with | [_], _ => rfl) (fun f cdv A outer s H E hr tk hp => ?_)
  exact (bss_cons (bs_set false 1 nd (be_lst (ba_cons (be_tup (ba_cons be_str (ba_cons be_bl ba_nil))) ba_nil))) (bss_cons (bs_set false 2 nd be_int) (bss_cons (bs_forEn hp rfl rfl T.n_enumerate (ba_cons (be_var 0) ba_nil) (bg_tup rfl (bgs_cons (bg_name 3 nd) (bgs_cons (bg_name 4 nd) bgs_nil))) (bss_cons (bs_unp (be_ix ix_seq os_ix (be_var 1) (be_neg be_int) (fun _ _ => rfl)) (bg_tup rfl (bgs_cons (bg_name 5 nd) (bgs_cons (bg_name 6 nd) bgs_nil)))) (bss_cons (bs_if (bt_cmp op_ge ops_I0 (be_var 3) (be_globI T.c_MOST_WORDS) (nomark _)) (bss_one (bs_ret (be_var 3))) bss_nil) (bss_one (bs_if (bt_cmp (op_eq.or (op_eqD hr.units)) os_eq (be_var 4) be_str (nomark _)) (bss_cons (bs_if (bt_cmp op_gt ops_I0 (be_callB call_lenB cs_len rfl T.n_len (by decide +kernel) (ba_cons (be_var 1) ba_nil)) (be_globI T.c_MOST_OPEN) (nomark _)) (bss_one (bs_ret (be_var 3))) bss_nil) (bss_one (bs_set false 1 nd (be_op (op_add.or (op_add_str.or op_cat)) os_plus (be_var 1) (be_lst (ba_cons (be_tup (ba_cons be_str (ba_cons be_bl ba_nil))) ba_nil)))))) (bss_one (bs_if (bt_cmp (op_eq.or (op_eqD hr.units)) os_eq (be_var 4) be_str (nomark _)) (bss_cons (bs_if (bt_w (bw_or (bt_cmp op_gt ops_I0 (be_callB call_lenB cs_len rfl T.n_len (by decide +kernel) (ba_cons (be_var 1) ba_nil)) (be_globI T.c_MOST_OPEN) (nomark _)) (bw_or (bt_cmp (op_eq.or (op_eqD hr.units)) os_eq (be_var 2) (be_globI T.c_MOST_OVERLAYS) (nomark _)) (bw_or1 (bt_cmp (op_eq.or (op_eqD hr.units)) os_eq (be_var 5) be_str (nomark _)))))) (bss_one (bs_ret (be_var 3))) bss_nil) (bss_cons (bs_set false 2 nd (be_op (op_add.or (op_add_str.or op_cat)) os_plus (be_var 2) be_int)) (bss_one (bs_set false 1 nd (be_op (op_add.or (op_add_str.or op_cat)) os_plus (be_var 1) (be_lst (ba_cons (be_tup (ba_cons be_str (ba_cons be_bl ba_nil))) ba_nil))))))) (bss_one (bs_if (bt_cmp (op_eq.or (op_eqD hr.units)) os_eq (be_var 4) be_str (nomark _)) (bss_cons (bs_if (bt_cmp (op_ne.or (op_neD hr.units)) os_ne (be_var 5) be_str (nomark _)) (bss_one (bs_ret (be_var 3))) bss_nil) (bss_one (bs_set false 1 nd (be_op (op_add.or (op_add_str.or op_cat)) os_plus (be_slice (be_var 1) bp_none (bp_some (be_neg be_int))) (be_lst (ba_cons (be_tup (ba_cons be_str (ba_cons be_bl ba_nil))) ba_nil)))))) (bss_cons (bs_if (bt_cmp (op_eq.or (op_eqD hr.units)) os_eq (be_slice (be_var 4) bp_none (bp_some be_int)) be_str (nomark _)) (bss_cons (bs_if (bt_w (bw_or (bt_cmp (op_ne.or (op_neD hr.units)) os_ne (be_var 5) be_str (nomark _)) (bw_or (bt_not (bt_val (be_var 6))) (bw_or1 (bt_not (bt_val (be_callG tk [false, false, false] G_is_decimal (hr.mono (by decide)) (ba_cons (be_slice (be_var 4) (bp_some be_int) bp_none) (ba_cons be_int (ba_cons (be_globI T.c_MOST_TIMES) ba_nil)))))))))) (bss_one (bs_ret (be_var 3))) bss_nil) (bss_one (bs_set false 1 nd (be_slice (be_var 1) bp_none (bp_some (be_neg be_int)))))) (bss_one (bs_if (bt_cmp (op_eq.or (op_eqD hr.units)) os_eq (be_var 4) be_str (nomark _)) (bss_cons (bs_if (bt_cmp (op_ne.or (op_neD hr.units)) os_ne (be_var 5) be_str (nomark _)) (bss_one (bs_ret (be_var 3))) bss_nil) (bss_one (bs_set false 1 nd (be_slice (be_var 1) bp_none (bp_some (be_neg be_int)))))) (bss_one (bs_if (bt_w (bw_or (bt_w (bw_and (bt_cmp op_in_seq os_in (be_var 4) (be_slice (be_var 0) bp_none (bp_some (be_var 3))) rfl) (bw_and1 (bt_cmp (op_eq.or (op_eqD hr.units)) os_eq (be_slice (be_var 4) (bp_some (be_neg be_int)) bp_none) be_str (nomark _))))) (bw_or1 (bt_not (bt_val (be_callG tk [false] G_is_single (hr.mono (by decide)) (ba_cons (be_var 4) ba_nil))))))) (bss_one (bs_ret (be_var 3))) bss_nil))))) (bss_one (bs_set false 1 nd (be_op (op_add.or (op_add_str.or op_cat)) os_plus (be_slice (be_var 1) bp_none (bp_some (be_neg be_int))) (be_lst (ba_cons (be_tup (ba_cons (be_ix ix_seq os_ix (be_ix ix_seq os_ix (be_var 1) (be_neg be_int) (fun _ _ => rfl)) be_int (fun _ _ => rfl)) (ba_cons be_bl ba_nil))) ba_nil))))))))))))))) (bss_one (bs_ret (be_if (bt_cmp (op_eq.or (op_eqD hr.units)) os_eq (be_callB call_lenB cs_len rfl T.n_len (by decide +kernel) (ba_cons (be_var 1) ba_nil)) be_int (nomark _)) be_non (be_callB call_lenB cs_len rfl T.n_len (by decide +kernel) (ba_cons (be_var 0) ba_nil))))))))
theorem sc_nodes_from : FnScope ["words", "place", "found", "at", "word", "body", "first", "middle", "second"] ["words", "place"] (defScope s_nodes_from) := ⟨rfl, rfl, rfl, by decide +kernel, rfl, by decide +kernel, by decide +kernel⟩
theorem ok_nodes_from (T : Txt K mg N) (D : GD K "nodes_from" "nodes_from" s_nodes_from (fun f => mg "nodes_from" = some (.ref f)))  : GF Pg w K mg base N "nodes_from" 17 2 F_nodes_from := by
  have nd := sc_nodes_from.nd
  exact gf_rec (j := 0) (P := []) (g := g_nodes_from) D sc_nodes_from (fun _ _ _ _ _ _ us hl => match us, hl with | [_, _], _ => rfl) (fun n Fr Gr f cdv A outer s H E hr tk hp => (bss_cons (bs_set true 2 nd (be_lst ba_nil)) (bss_cons (bs_while 500 hp (bt_w (bw_and (bt_cmp op_lt ops_I0 (be_var 1) (be_callB call_lenB cs_len rfl T.n_len (by decide +kernel) (ba_cons (be_var 0) ba_nil)) (nomark _)) (bw_and (bt_cmp op_notIn_seq os_in (be_ix ix_seq os_ix (be_var 0) (be_var 1) (fun _ _ => rfl)) (be_tup (ba_cons be_str (ba_cons be_str ba_nil))) rfl) (bw_and1 (bt_cmp (op_ne.or (op_neD hr.units)) os_ne (be_ix ix_seq os_ix (be_ix ix_seq os_ix (be_var 0) (be_var 1) (fun _ _ => rfl)) be_int (fun _ _ => rfl)) be_str (nomark _)))))) (bss_cons (bs_set false 3 nd (be_var 1)) (bss_cons (bs_set false 4 nd (be_ix ix_seq os_ix (be_var 0) (be_var 3) (fun _ _ => rfl))) (bss_cons (bs_if (bt_cmp (op_eq.or (op_eqD hr.units)) os_eq (be_var 4) be_str (nomark _)) (bss_cons (bs_unp (be_callG tk [false, false] Gr hr (ba_cons (be_var 0) (ba_cons (be_op (op_add.or (op_add_str.or op_cat)) os_plus (be_var 3) be_int) ba_nil))) (bg_tup rfl (bgs_cons (bg_name 5 nd) (bgs_cons (bg_name 1 nd) bgs_nil)))) (bss_one (bs_expr (be_append 2 (ba_cons (be_tup (ba_cons be_str (ba_cons (be_callTy call_intB cs_int rfl T.n_int (by decide +kernel) (ba_cons (be_slice (be_ix ix_seq os_ix (be_var 0) (be_var 1) (fun _ _ => rfl)) (bp_some be_int) bp_none) ba_nil)) (ba_cons (be_var 5) (ba_cons (be_var 3) ba_nil))))) ba_nil))))) (bss_one (bs_if (bt_cmp (op_eq.or (op_eqD hr.units)) os_eq (be_var 4) be_str (nomark _)) (bss_cons (bs_unp (be_callG tk [false, false] Gr hr (ba_cons (be_var 0) (ba_cons (be_op (op_add.or (op_add_str.or op_cat)) os_plus (be_var 3) be_int) ba_nil))) (bg_tup rfl (bgs_cons (bg_name 6 nd) (bgs_cons (bg_name 7 nd) bgs_nil)))) (bss_cons (bs_unp (be_callG tk [false, false] Gr hr (ba_cons (be_var 0) (ba_cons (be_op (op_add.or (op_add_str.or op_cat)) os_plus (be_var 7) be_int) ba_nil))) (bg_tup rfl (bgs_cons (bg_name 8 nd) (bgs_cons (bg_name 1 nd) bgs_nil)))) (bss_one (bs_expr (be_append 2 (ba_cons (be_tup (ba_cons be_str (ba_cons (be_var 6) (ba_cons (be_var 8) (ba_cons (be_var 3) ba_nil))))) ba_nil)))))) (bss_one (bs_if (bt_cmp (op_eq.or (op_eqD hr.units)) os_eq (be_ix ix_seq os_ix (be_var 4) be_int (fun _ _ => rfl)) be_str (nomark _)) (bss_one (bs_expr (be_append 2 (ba_cons (be_tup (ba_cons be_str (ba_cons (be_callTy call_intB cs_int rfl T.n_int (by decide +kernel) (ba_cons (be_slice (be_var 4) (bp_some be_int) bp_none) ba_nil)) (ba_cons (be_var 3) ba_nil)))) ba_nil)))) (bss_one (bs_if (bt_cmp (op_eq.or (op_eqD hr.units)) os_eq (be_ix ix_seq os_ix (be_var 4) (be_neg be_int) (fun _ _ => rfl)) be_str (nomark _)) (bss_one (bs_expr (be_append 2 (ba_cons (be_tup (ba_cons be_str (ba_cons (be_slice (be_var 4) bp_none (bp_some (be_neg be_int))) (ba_cons (be_var 3) ba_nil)))) ba_nil)))) (bss_one (bs_expr (be_append 2 (ba_cons (be_tup (ba_cons be_str (ba_cons (be_callTy call_intB cs_int rfl T.n_int (by decide +kernel) (ba_cons (be_var 4) ba_nil)) (ba_cons (be_var 3) ba_nil)))) ba_nil))))))))))) (bss_one (bs_set false 1 nd (be_op (op_add.or (op_add_str.or op_cat)) os_plus (be_var 1) be_int))))))) (bss_one (bs_ret (be_tup (ba_cons (be_callTy call_tuple_of cs_tupL rfl T.n_tuple (by decide +kernel) (ba_cons (be_var 2) ba_nil)) (ba_cons (be_var 1) ba_nil)))))))) 16
theorem sc_nodes_in : FnScope ["words"] ["words"] (defScope s_nodes_in) := ⟨rfl, rfl, rfl, by decide +kernel, rfl, by decide +kernel, by decide +kernel⟩
theorem ok_nodes_in (T : Txt K mg N) (D : GD K "nodes_in" "nodes_in" s_nodes_in (fun f => mg "nodes_in" = some (.ref f))) (G_nodes_from : GF Pg w K mg base N "nodes_from" 17 2 F_nodes_from) : GF Pg w K mg base N "nodes_in" 18 1 F_nodes_in := by
  have nd := sc_nodes_in.nd
  refine gf_mk (k := 17) (P := []) (g := g_nodes_in) D sc_nodes_in (fun _ _ _ _ _ _ us hl => match us, hl with | [_], _ => rfl) (fun f cdv A outer s H E hr tk hp => ?_)
  exact (bss_one (bs_ret (be_ix ix_seq os_ix (be_callG tk [false, false] G_nodes_from (hr.mono (by decide)) (ba_cons (be_var 0) (ba_cons be_int ba_nil))) be_int (fun _ _ => rfl))))
theorem sc_Layout_init : FnScope ["self", "text", "words", "wrong", "word"] ["self", "text"] (defScope s_Layout_init) := ⟨rfl, rfl, rfl, by decide +kernel, rfl, by decide +kernel, by decide +kernel⟩
theorem ok_Layout_init (T : Txt K mg N) (D : GD K "__init__" "Layout.__init__" s_Layout_init (fun f => mg "Layout" = some (.ref (N.cl 10)) ∧ Mk K (N.cl 10) f)) (G_words_of : GF Pg w K mg base N "words_of" 1 1 F_words_of) (G_first_wrong : GF Pg w K mg base N "first_wrong" 6 1 F_first_wrong) (G_nodes_in : GF Pg w K mg base N "nodes_in" 18 1 F_nodes_in) : GMk Pg w K mg base N "Layout" 10 19 1 F_Layout_init := by
  have nd := sc_Layout_init.nd
  obtain ⟨⟨f, fd, ps, h1, ⟨h2, h3⟩, h4⟩⟩ := gm_mk (Pg := Pg) (w := w) (mg := mg) (base := base) (N := N) (k := 18) (P := [0]) (g := g_Layout_init) D sc_Layout_init (fun _ _ _ _ _ _ us hl => match us, hl with | [_, _], _ => rfl) (fun f cdv A outer s H E hr tk hp => (bss_cons (bs_if (bt_not (bt_val (be_isi (be_var 1) (pe_bltn (v := .ty "str") (u := .type "str") rfl T.n_str (by decide +kernel) rfl) (.ty _) T.isi_str rfl T.n_isinstance))) (bss_one bs_never) bss_nil) (bss_cons (bs_set false 2 nd (be_callG tk [false] G_words_of (hr.mono (by decide)) (ba_cons (be_var 1) ba_nil))) (bss_cons (bs_set false 3 nd (be_callG tk [false] G_first_wrong (hr.mono (by decide)) (ba_cons (be_var 2) ba_nil))) (bss_cons (bs_if (bt_cmp op_notN os_notN (be_var 3) be_non (nomark _)) (bss_one bs_never) bss_nil) (bss_cons (bs_fld 10 3 0 (be_var 1) T.fl_own_text T.cl_Layout T.na_own_text) (bss_cons (bs_fld 10 4 0 (be_callTy call_tuple_of cs_tupL rfl T.n_tuple (by decide +kernel) (ba_cons (be_var 2) ba_nil)) T.fl_own_words T.cl_Layout T.na_own_words) (bss_cons (bs_fld 10 5 0 (be_callG tk [false] G_nodes_in (hr.mono (by decide)) (ba_cons (be_var 2) ba_nil)) T.fl_own_nodes T.cl_Layout T.na_own_nodes) (bss_cons (bs_fld 10 6 0 (be_callTy call_tuple_of cs_tupL rfl T.n_tuple (by decide +kernel) (ba_cons (be_lcL [("word", 4)] rfl nd (be_var 2) (by show BlkOk ["self", "text", "words", "wrong", "word"] (defScope s_Layout_init) _ _; exact ⟨rfl, by decide +kernel, by decide +kernel, by decide +kernel, by decide +kernel⟩) (fun _ _ _ _ _ _ hP => (bg_name 4 nd (hP 4 (by decide)))) (fun _ _ _ _ _ => (bts_one (bt_cmp (op_eq.or (op_eqD hr.units)) os_eq (be_ix ix_seq os_ix (be_var 4) (be_neg be_int) (fun _ _ => rfl)) be_str (nomark _)))) (fun _ _ _ _ _ => (be_slice (be_var 4) bp_none (bp_some (be_neg be_int))))) ba_nil)) T.fl_own_labels T.cl_Layout T.na_own_labels) (bss_one (bs_fld 10 7 0 (be_callB (cr_max rfl) cs_maxL rfl T.n_max (by decide +kernel) (ba_cons (be_op (op_add.or (op_add_str.or op_cat)) os_plus (be_lst (ba_cons be_int ba_nil)) (be_lcL [("word", 4)] rfl nd (be_var 2) (by show BlkOk ["self", "text", "words", "wrong", "word"] (defScope s_Layout_init) _ _; exact ⟨rfl, by decide +kernel, by decide +kernel, by decide +kernel, by decide +kernel⟩) (fun _ _ _ _ _ _ hP => (bg_name 4 nd (hP 4 (by decide)))) (fun _ _ _ _ _ => (bts_one (bt_cmp (op_eq.or (op_eqD hr.units)) os_eq (be_ix ix_seq os_ix (be_var 4) be_int (fun _ _ => rfl)) be_str (nomark _)))) (fun _ _ _ _ _ => (be_callTy call_intB cs_int rfl T.n_int (by decide +kernel) (ba_cons (be_slice (be_var 4) (bp_some be_int) bp_none) ba_nil))))) ba_nil)) T.fl_own_alignment T.cl_Layout T.na_own_alignment)))))))))))
  exact ⟨⟨f, fd, ps, h1, h2, h3, h4⟩⟩
theorem sc_l_words : FnScope ["_law_nodes_here", "_law_found", "_law_node"] ["_law_nodes_here"] (defScope s_l_words) := ⟨rfl, rfl, rfl, by decide +kernel, rfl, by decide +kernel, by decide +kernel⟩
theorem ok_l_words (T : Txt K mg N) (D : GD K "_law_words" "_law_words" s_l_words (fun f => mg "_law_words" = some (.ref f)))  : GF Pg w K mg base N "_law_words" 17 1 F_l_words := by
  have nd := sc_l_words.nd
  exact gf_rec (j := 0) (P := []) (g := g_l_words) D sc_l_words (fun _ _ _ _ _ _ us hl => match us, hl with | [_], _ => rfl) (fun n Fr Gr f cdv A outer s H E hr tk hp => (bss_cons (bs_set true 1 nd (be_lst ba_nil)) (bss_cons (bs_forL hp rfl (be_var 0) (bg_name 2 nd) (bss_one (bs_if (bt_cmp (op_eq.or (op_eqD hr.units)) os_eq (be_ix ix_seq os_ix (be_var 2) be_int (fun _ _ => rfl)) be_str (nomark _)) (bss_one (bs_set true 1 nd (be_op (op_add.or (op_add_str.or op_cat)) os_plus (be_op (op_add.or (op_add_str.or op_cat)) os_plus (be_op (op_add.or (op_add_str.or op_cat)) os_plus (be_var 1) (be_lst (ba_cons be_str ba_nil))) (be_callG tk [false] Gr hr (ba_cons (be_ix ix_seq os_ix (be_var 2) be_int (fun _ _ => rfl)) ba_nil))) (be_lst (ba_cons (be_op (op_add.or (op_add_str.or op_cat)) os_plus be_str (be_callTy call_strX cs_strX rfl T.n_str (by decide +kernel) (ba_cons (be_ix ix_seq os_ix (be_var 2) be_int (fun _ _ => rfl)) ba_nil))) ba_nil))))) (bss_one (bs_if (bt_cmp (op_eq.or (op_eqD hr.units)) os_eq (be_ix ix_seq os_ix (be_var 2) be_int (fun _ _ => rfl)) be_str (nomark _)) (bss_one (bs_set true 1 nd (be_op (op_add.or (op_add_str.or op_cat)) os_plus (be_op (op_add.or (op_add_str.or op_cat)) os_plus (be_op (op_add.or (op_add_str.or op_cat)) os_plus (be_op (op_add.or (op_add_str.or op_cat)) os_plus (be_op (op_add.or (op_add_str.or op_cat)) os_plus (be_var 1) (be_lst (ba_cons be_str ba_nil))) (be_callG tk [false] Gr hr (ba_cons (be_ix ix_seq os_ix (be_var 2) be_int (fun _ _ => rfl)) ba_nil))) (be_lst (ba_cons be_str ba_nil))) (be_callG tk [false] Gr hr (ba_cons (be_ix ix_seq os_ix (be_var 2) be_int (fun _ _ => rfl)) ba_nil))) (be_lst (ba_cons be_str ba_nil))))) (bss_one (bs_expr (be_append 1 (ba_cons (be_op (op_add.or (op_add_str.or op_cat)) os_plus (be_op (op_add.or (op_add_str.or op_cat)) os_plus (be_ix ix_seq os_ix (be_lst (ba_cons be_str (ba_cons be_str ba_nil))) (be_callTy call_intB cs_int rfl T.n_int (by decide +kernel) (ba_cons (be_cmp (op_eq.or (op_eqD hr.units)) os_eq (be_ix ix_seq os_ix (be_var 2) be_int (fun _ _ => rfl)) be_str (nomark _)) ba_nil)) (fun _ _ => rfl)) (be_callTy call_strX cs_strX rfl T.n_str (by decide +kernel) (ba_cons (be_ix ix_seq os_ix (be_var 2) be_int (fun _ _ => rfl)) ba_nil))) (be_ix ix_seq os_ix (be_lst (ba_cons be_str (ba_cons be_str ba_nil))) (be_callTy call_intB cs_int rfl T.n_int (by decide +kernel) (ba_cons (be_cmp (op_eq.or (op_eqD hr.units)) os_eq (be_ix ix_seq os_ix (be_var 2) be_int (fun _ _ => rfl)) be_str (nomark _)) ba_nil)) (fun _ _ => rfl))) ba_nil))))))))) (bss_one (bs_ret (be_var 1)))))) 16
theorem sc_Layout_alignment : FnScope ["self"] ["self"] (defScope s_Layout_alignment) := ⟨rfl, rfl, rfl, by decide +kernel, rfl, by decide +kernel, by decide +kernel⟩
theorem ok_Layout_alignment (T : Txt K mg N) (D : GD K "alignment" "Layout.alignment" s_Layout_alignment (fun q => Cls K (N.cl 10) ∧ ∃ r, PropOf K (N.cl 10) "alignment" r q))  : GM Pg w K mg base N 1 1 F_Layout_alignment (fun q => Cls K (N.cl 10) ∧ ∃ r, PropOf K (N.cl 10) "alignment" r q) := by
  have nd := sc_Layout_alignment.nd
  refine gm_mk (k := 0) (P := []) (g := g_Layout_alignment) D sc_Layout_alignment (fun _ _ _ _ _ _ us hl => match us, hl with | [_], _ => rfl) (fun f cdv A outer s H E hr tk hp => ?_)
  exact (bss_one (bs_ret (be_fld 10 7 (be_var 0) T.fl_own_alignment T.cl_Layout T.na_own_alignment)))
theorem sc_l_ceil : FnScope ["_law_modulus_here", "_law_number_here"] ["_law_modulus_here", "_law_number_here"] (defScope s_l_ceil) := ⟨rfl, rfl, rfl, by decide +kernel, rfl, by decide +kernel, by decide +kernel⟩
theorem ok_l_ceil (T : Txt K mg N) (D : GD K "_law_ceil" "_law_ceil" s_l_ceil (fun f => mg "_law_ceil" = some (.ref f)))  : GF Pg w K mg base N "_law_ceil" 1 2 F_l_ceil := by
  have nd := sc_l_ceil.nd
  refine gf_mk (k := 0) (P := []) (g := g_l_ceil) D sc_l_ceil (fun _ _ _ _ _ _ us hl => match us, hl with | [_, _], _ => rfl) (fun f cdv A outer s H E hr tk hp => ?_)
  exact (bss_one (bs_ret (be_op op_sub ops_I0 be_int (be_op op_mulX os_mul (be_op op_fdivW os_div (be_op op_sub ops_I0 be_int (be_var 1)) (be_var 0)) (be_var 0)))))
theorem sc_l_walk : FnScope ["_law_nodes_here", "_law_at", "_law_word", "_law_passes", "_law_rows_here", "_law_node", "_law_ends_here", "_law_turn", "_law_one", "_law_two", "_law_later"] ["_law_nodes_here", "_law_at", "_law_word", "_law_passes", "_law_rows_here"] (defScope s_l_walk) := ⟨rfl, rfl, rfl, by decide +kernel, rfl, by decide +kernel, by decide +kernel⟩
theorem ok_l_walk (T : Txt K mg N) (D : GD K "_law_walk" "_law_walk" s_l_walk (fun f => mg "_law_walk" = some (.ref f))) (G_l_ceil : GF Pg w K mg base N "_law_ceil" 1 2 F_l_ceil) : GF Pg w K mg base N "_law_walk" 18 5 F_l_walk := by
  have nd := sc_l_walk.nd
  exact gf_rec (j := 1) (P := [4]) (g := g_l_walk) D sc_l_walk (fun _ _ _ _ _ _ us hl => match us, hl with | [_, _, _, _, _], _ => rfl) (fun n Fr Gr f cdv A outer s H E hr tk hp => (bss_cons (bs_forL hp rfl (be_var 0) (bg_name 5 nd) (bss_one (bs_if (bt_cmp (op_eq.or (op_eqD hr.units)) os_eq (be_ix ix_seq os_ix (be_var 5) be_int (fun _ _ => rfl)) be_str (nomark _)) (bss_cons (bs_set false 6 nd (be_tup (ba_cons (be_var 1) (ba_cons (be_var 2) ba_nil)))) (bss_cons (bs_forR1 hp rfl rfl T.n_range (ba_cons (be_ix ix_seq os_ix (be_var 5) be_int (fun _ _ => rfl)) ba_nil) (bg_name 7 nd) (bss_one (bs_set false 6 nd (be_callG tk [false, false, false, false, true] Gr hr (ba_cons (be_ix ix_seq os_ix (be_var 5) be_int (fun _ _ => rfl)) (ba_cons (be_ix ix_seq os_ix (be_var 6) be_int (fun _ _ => rfl)) (ba_cons (be_op (op_add.or (op_add_str.or op_cat)) os_plus (be_var 2) be_int) (ba_cons (be_op op_plusT os_plusT (be_var 3) (be_tup (ba_cons (be_var 7) ba_nil))) (ba_cons (be_var 4) ba_nil))))))))) (bss_one (bs_par false false 1 2 rfl nd (ba_cons (be_ix ix_seq os_ix (be_var 6) be_int (fun _ _ => rfl)) (ba_cons (be_op (op_add.or (op_add_str.or op_cat)) os_plus (be_ix ix_seq os_ix (be_var 6) be_int (fun _ _ => rfl)) be_int) ba_nil)))))) (bss_one (bs_if (bt_cmp (op_eq.or (op_eqD hr.units)) os_eq (be_ix ix_seq os_ix (be_var 5) be_int (fun _ _ => rfl)) be_str (nomark _)) (bss_cons (bs_set false 8 nd (be_callG tk [false, false, false, false, true] Gr hr (ba_cons (be_ix ix_seq os_ix (be_var 5) be_int (fun _ _ => rfl)) (ba_cons (be_var 1) (ba_cons (be_op (op_add.or (op_add_str.or op_cat)) os_plus (be_var 2) be_int) (ba_cons (be_var 3) (ba_cons (be_var 4) ba_nil))))))) (bss_cons (bs_set false 9 nd (be_callG tk [false, false, false, false, true] Gr hr (ba_cons (be_ix ix_seq os_ix (be_var 5) be_int (fun _ _ => rfl)) (ba_cons (be_var 1) (ba_cons (be_op (op_add.or (op_add_str.or op_cat)) os_plus (be_ix ix_seq os_ix (be_var 8) be_int (fun _ _ => rfl)) be_int) (ba_cons (be_var 3) (ba_cons (be_var 4) ba_nil))))))) (bss_one (bs_par false false 1 2 rfl nd (ba_cons (be_callB (call_max2 rfl) cs_2I rfl T.n_max (by decide +kernel) (ba_cons (be_ix ix_seq os_ix (be_var 8) be_int (fun _ _ => rfl)) (ba_cons (be_ix ix_seq os_ix (be_var 9) be_int (fun _ _ => rfl)) ba_nil))) (ba_cons (be_op (op_add.or (op_add_str.or op_cat)) os_plus (be_ix ix_seq os_ix (be_var 9) be_int (fun _ _ => rfl)) be_int) ba_nil)))))) (bss_cons (bs_set false 10 nd (be_var 1)) (bss_cons (bs_if (bt_cmp (op_eq.or (op_eqD hr.units)) os_eq (be_ix ix_seq os_ix (be_var 5) be_int (fun _ _ => rfl)) be_str (nomark _)) (bss_one (bs_set false 10 nd (be_op (op_add.or (op_add_str.or op_cat)) os_plus (be_var 1) (be_ix ix_seq os_ix (be_var 5) be_int (fun _ _ => rfl))))) bss_nil) (bss_cons (bs_if (bt_cmp (op_eq.or (op_eqD hr.units)) os_eq (be_ix ix_seq os_ix (be_var 5) be_int (fun _ _ => rfl)) be_str (nomark _)) (bss_one (bs_set false 10 nd (be_callG tk [false, false] G_l_ceil (hr.mono (by omega)) (ba_cons (be_ix ix_seq os_ix (be_var 5) be_int (fun _ _ => rfl)) (ba_cons (be_var 1) ba_nil))))) bss_nil) (bss_cons (bs_expr (be_append 4 (ba_cons (be_tup (ba_cons (be_ix ix_seq os_ix (be_var 5) be_int (fun _ _ => rfl)) (ba_cons (be_var 2) (ba_cons (be_var 3) (ba_cons (be_var 1) (ba_cons (be_var 10) (ba_cons (be_ix ix_seq os_ix (be_var 5) be_int (fun _ _ => rfl)) ba_nil))))))) ba_nil))) (bss_one (bs_par false false 1 2 rfl nd (ba_cons (be_var 10) (ba_cons (be_op (op_add.or (op_add_str.or op_cat)) os_plus (be_var 2) be_int) ba_nil))))))))))))) (bss_one (bs_ret (be_tup (ba_cons (be_var 1) (ba_cons (be_var 2) ba_nil))))))) 16
theorem sc_l_rows : FnScope ["_law_nodes_here", "_law_at", "_law_rows_here"] ["_law_nodes_here", "_law_at"] (defScope s_l_rows) := ⟨rfl, rfl, rfl, by decide +kernel, rfl, by decide +kernel, by decide +kernel⟩
theorem ok_l_rows (T : Txt K mg N) (D : GD K "_law_rows" "_law_rows" s_l_rows (fun f => mg "_law_rows" = some (.ref f))) (G_l_walk : GF Pg w K mg base N "_law_walk" 18 5 F_l_walk) : GF Pg w K mg base N "_law_rows" 19 2 F_l_rows := by
  have nd := sc_l_rows.nd
  refine gf_mk (k := 18) (P := []) (g := g_l_rows) D sc_l_rows (fun _ _ _ _ _ _ us hl => match us, hl with | [_, _], _ => rfl) (fun f cdv A outer s H E hr tk hp => ?_)
  exact (bss_cons (bs_set true 2 nd (be_lst ba_nil)) (bss_cons (bs_expr (be_callG tk [false, false, false, false, true] G_l_walk (hr.mono (by decide)) (ba_cons (be_var 0) (ba_cons (be_var 1) (ba_cons be_int (ba_cons (be_tup ba_nil) (ba_cons (be_var 2) ba_nil))))))) (bss_one (bs_ret (be_var 2)))))
theorem sc_l_gaps : FnScope ["_law_nodes_here", "_law_start_here", "_law_kind", "_law_word", "_law_passes", "_law_at", "_law_later", "_law_more"] ["_law_nodes_here", "_law_start_here"] (defScope s_l_gaps) := ⟨rfl, rfl, rfl, by decide +kernel, rfl, by decide +kernel, by decide +kernel⟩
theorem ok_l_gaps (T : Txt K mg N) (D : GD K "_law_gaps" "_law_gaps" s_l_gaps (fun f => mg "_law_gaps" = some (.ref f))) (G_l_rows : GF Pg w K mg base N "_law_rows" 19 2 F_l_rows) : GF Pg w K mg base N "_law_gaps" 20 2 F_l_gaps := by
  have nd := sc_l_gaps.nd
  refine gf_mk (k := 19) (P := []) (g := g_l_gaps) D sc_l_gaps (fun _ _ _ _ _ _ us hl => match us, hl with | [_, _], _ => rfl) (fun f cdv A outer s H E hr tk hp => ?_)
  exact (bss_one (bs_ret (be_callB (cr_sum rfl) cs_sum rfl T.n_sum (by decide +kernel) (ba_cons (be_lcL [("_law_kind", 2), ("_law_word", 3), ("_law_passes", 4), ("_law_at", 5), ("_law_later", 6), ("_law_more", 7)] rfl nd (be_callG tk [false, false] G_l_rows (hr.mono (by decide)) (ba_cons (be_var 0) (ba_cons (be_var 1) ba_nil))) (by show BlkOk ["_law_nodes_here", "_law_start_here", "_law_kind", "_law_word", "_law_passes", "_law_at", "_law_later", "_law_more"] (defScope s_l_gaps) _ _; exact ⟨rfl, by decide +kernel, by decide +kernel, by decide +kernel, by decide +kernel⟩) (fun _ _ _ _ _ _ hP => (bg_tup rfl (bgs_cons (bg_name 2 nd (hP 2 (by decide))) (bgs_cons (bg_name 3 nd (hP 3 (by decide))) (bgs_cons (bg_name 4 nd (hP 4 (by decide))) (bgs_cons (bg_name 5 nd (hP 5 (by decide))) (bgs_cons (bg_name 6 nd (hP 6 (by decide))) (bgs_cons (bg_name 7 nd (hP 7 (by decide))) bgs_nil)))))))) (fun _ _ _ _ _ => (bts_one (bt_cmp (op_eq.or (op_eqD hr.units)) os_eq (be_var 2) be_str (nomark _)))) (fun _ _ _ _ _ => (be_op op_sub ops_I0 (be_var 6) (be_var 5)))) ba_nil))))
theorem sc_require_layout : FnScope ["value"] ["value"] (defScope s_require_layout) := ⟨rfl, rfl, rfl, by decide +kernel, rfl, by decide +kernel, by decide +kernel⟩
theorem ok_require_layout (T : Txt K mg N) (D : GD K "require_layout" "require_layout" s_require_layout (fun f => mg "require_layout" = some (.ref f)))  : GF Pg w K mg base N "require_layout" 1 1 F_require_layout := by
  have nd := sc_require_layout.nd
  refine gf_mk (k := 0) (P := []) (g := g_require_layout) D sc_require_layout (fun _ _ _ _ _ _ us hl => match us, hl with | [_], _ => rfl) (fun f cdv A outer s H E hr tk hp => ?_)
  exact (bss_one (bs_if (bt_not (bt_val (be_isi (be_var 0) (pe_glob (v := .ref (N.cl 10)) rfl T.mg_Layout rfl) (.own _) T.isi_Layout rfl T.n_isinstance))) (bss_one bs_never) bss_nil))
theorem sc_Layout_is_plain : FnScope ["self"] ["self"] (defScope s_Layout_is_plain) := ⟨rfl, rfl, rfl, by decide +kernel, rfl, by decide +kernel, by decide +kernel⟩
theorem ok_Layout_is_plain (T : Txt K mg N) (D : GD K "is_plain" "Layout.is_plain" s_Layout_is_plain (fun q => Cls K (N.cl 10) ∧ ∃ r, PropOf K (N.cl 10) "is_plain" r q))  : GM Pg w K mg base N 1 1 F_Layout_is_plain (fun q => Cls K (N.cl 10) ∧ ∃ r, PropOf K (N.cl 10) "is_plain" r q) := by
  have nd := sc_Layout_is_plain.nd
  refine gm_mk (k := 0) (P := []) (g := g_Layout_is_plain) D sc_Layout_is_plain (fun _ _ _ _ _ _ us hl => match us, hl with | [_], _ => rfl) (fun f cdv A outer s H E hr tk hp => ?_)
  exact (bss_one (bs_ret (be_cmp op_notIn_seq os_in be_str (be_fld 10 4 (be_var 0) T.fl_own_words T.cl_Layout T.na_own_words) rfl)))
theorem sc_require_plain : FnScope ["value"] ["value"] (defScope s_require_plain) := ⟨rfl, rfl, rfl, by decide +kernel, rfl, by decide +kernel, by decide +kernel⟩
theorem ok_require_plain (T : Txt K mg N) (D : GD K "require_plain" "require_plain" s_require_plain (fun f => mg "require_plain" = some (.ref f))) (G_require_layout : GF Pg w K mg base N "require_layout" 1 1 F_require_layout) (G_Layout_is_plain : GM Pg w K mg base N 1 1 F_Layout_is_plain (fun q => Cls K (N.cl 10) ∧ ∃ r, PropOf K (N.cl 10) "is_plain" r q)) : GF Pg w K mg base N "require_plain" 3 1 F_require_plain := by
  have nd := sc_require_plain.nd
  refine gf_mk (k := 2) (P := []) (g := g_require_plain) D sc_require_plain (fun _ _ _ _ _ _ us hl => match us, hl with | [_], _ => rfl) (fun f cdv A outer s H E hr tk hp => ?_)
  exact (bss_cons (bs_expr (be_callG tk [false] G_require_layout (hr.mono (by decide)) (ba_cons (be_var 0) ba_nil))) (bss_one (bs_if (bt_not (bt_val (be_propG 10 G_Layout_is_plain (hr.mono (by decide)) (be_var 0)))) (bss_one bs_never) bss_nil)))
theorem sc_require_start : FnScope ["value"] ["value"] (defScope s_require_start) := ⟨rfl, rfl, rfl, by decide +kernel, rfl, by decide +kernel, by decide +kernel⟩
theorem ok_require_start (T : Txt K mg N) (D : GD K "require_start" "require_start" s_require_start (fun f => mg "require_start" = some (.ref f))) (G_is_int : GF Pg w K mg base N "is_int" 1 1 F_is_int) : GF Pg w K mg base N "require_start" 2 1 F_require_start := by
  have nd := sc_require_start.nd
  refine gf_mk (k := 1) (P := []) (g := g_require_start) D sc_require_start (fun _ _ _ _ _ _ us hl => match us, hl with | [_], _ => rfl) (fun f cdv A outer s H E hr tk hp => ?_)
  exact (bss_one (bs_if (bt_w (bw_or (bt_not (bt_val (be_callG tk [false] G_is_int (hr.mono (by decide)) (ba_cons (be_var 0) ba_nil)))) (bw_or1 (bt_cmp op_lt ops_I0 (be_var 0) be_int (nomark _))))) (bss_one bs_never) bss_nil))
theorem sc_nodes_of : FnScope ["layout"] ["layout"] (defScope s_nodes_of) := ⟨rfl, rfl, rfl, by decide +kernel, rfl, by decide +kernel, by decide +kernel⟩
theorem ok_nodes_of (T : Txt K mg N) (D : GD K "nodes_of" "nodes_of" s_nodes_of (fun f => mg "nodes_of" = some (.ref f)))  : GF Pg w K mg base N "nodes_of" 1 1 F_nodes_of := by
  have nd := sc_nodes_of.nd
  refine gf_mk (k := 0) (P := []) (g := g_nodes_of) D sc_nodes_of (fun _ _ _ _ _ _ us hl => match us, hl with | [_], _ => rfl) (fun f cdv A outer s H E hr tk hp => ?_)
  exact (bss_one (bs_ret (be_fld 10 5 (be_var 0) T.fl_own_nodes T.cl_Layout T.na_own_nodes)))
theorem sc_ceil_to : FnScope ["modulus", "number"] ["modulus", "number"] (defScope s_ceil_to) := ⟨rfl, rfl, rfl, by decide +kernel, rfl, by decide +kernel, by decide +kernel⟩
theorem ok_ceil_to (T : Txt K mg N) (D : GD K "ceil_to" "ceil_to" s_ceil_to (fun f => mg "ceil_to" = some (.ref f)))  : GF Pg w K mg base N "ceil_to" 1 2 F_ceil_to := by
  have nd := sc_ceil_to.nd
  refine gf_mk (k := 0) (P := []) (g := g_ceil_to) D sc_ceil_to (fun _ _ _ _ _ _ us hl => match us, hl with | [_, _], _ => rfl) (fun f cdv A outer s H E hr tk hp => ?_)
  exact (bss_one (bs_ret (be_op op_mulX os_mul (be_op op_fdivW os_div (be_op op_sub ops_I0 (be_op (op_add.or (op_add_str.or op_cat)) os_plus (be_var 1) (be_var 0)) be_int) (be_var 0)) (be_var 0))))
theorem sc_end_by : FnScope ["triple", "start", "modulus", "before", "after"] ["triple", "start"] (defScope s_end_by) := ⟨rfl, rfl, rfl, by decide +kernel, rfl, by decide +kernel, by decide +kernel⟩
theorem ok_end_by (T : Txt K mg N) (D : GD K "end_by" "end_by" s_end_by (fun f => mg "end_by" = some (.ref f))) (G_ceil_to : GF Pg w K mg base N "ceil_to" 1 2 F_ceil_to) : GF Pg w K mg base N "end_by" 2 2 F_end_by := by
  have nd := sc_end_by.nd
  refine gf_mk (k := 1) (P := []) (g := g_end_by) D sc_end_by (fun _ _ _ _ _ _ us hl => match us, hl with | [_, _], _ => rfl) (fun f cdv A outer s H E hr tk hp => ?_)
  exact (bss_cons (bs_unp (be_var 0) (bg_tup rfl (bgs_cons (bg_name 2 nd) (bgs_cons (bg_name 3 nd) (bgs_cons (bg_name 4 nd) bgs_nil))))) (bss_one (bs_ret (be_op (op_add.or (op_add_str.or op_cat)) os_plus (be_callG tk [false, false] G_ceil_to (hr.mono (by decide)) (ba_cons (be_var 2) (ba_cons (be_op (op_add.or (op_add_str.or op_cat)) os_plus (be_var 1) (be_var 3)) ba_nil))) (be_var 4)))))
theorem sc_power_of : FnScope ["triple", "times", "modulus", "before", "after"] ["triple", "times"] (defScope s_power_of) := ⟨rfl, rfl, rfl, by decide +kernel, rfl, by decide +kernel, by decide +kernel⟩
theorem ok_power_of (T : Txt K mg N) (D : GD K "power_of" "power_of" s_power_of (fun f => mg "power_of" = some (.ref f))) (G_ceil_to : GF Pg w K mg base N "ceil_to" 1 2 F_ceil_to) : GF Pg w K mg base N "power_of" 2 2 F_power_of := by
  have nd := sc_power_of.nd
  refine gf_mk (k := 1) (P := []) (g := g_power_of) D sc_power_of (fun _ _ _ _ _ _ us hl => match us, hl with | [_, _], _ => rfl) (fun f cdv A outer s H E hr tk hp => ?_)
  exact (bss_cons (bs_if (bt_cmp (op_eq.or (op_eqD hr.units)) os_eq (be_var 1) be_int (nomark _)) (bss_one (bs_ret (be_globP T.c_SAME))) bss_nil) (bss_cons (bs_unp (be_var 0) (bg_tup rfl (bgs_cons (bg_name 2 nd) (bgs_cons (bg_name 3 nd) (bgs_cons (bg_name 4 nd) bgs_nil))))) (bss_one (bs_ret (be_tup (ba_cons (be_var 2) (ba_cons (be_var 3) (ba_cons (be_op (op_add.or (op_add_str.or op_cat)) os_plus (be_var 4) (be_op op_mulX os_mul (be_op op_sub ops_I0 (be_var 1) be_int) (be_callG tk [false, false] G_ceil_to (hr.mono (by decide)) (ba_cons (be_var 2) (ba_cons (be_op (op_add.or (op_add_str.or op_cat)) os_plus (be_var 3) (be_var 4)) ba_nil))))) ba_nil))))))))
theorem sc_reduced : FnScope ["modulus", "before", "after"] ["modulus", "before", "after"] (defScope s_reduced) := ⟨rfl, rfl, rfl, by decide +kernel, rfl, by decide +kernel, by decide +kernel⟩
theorem ok_reduced (T : Txt K mg N) (D : GD K "reduced" "reduced" s_reduced (fun f => mg "reduced" = some (.ref f)))  : GF Pg w K mg base N "reduced" 1 3 F_reduced := by
  have nd := sc_reduced.nd
  refine gf_mk (k := 0) (P := []) (g := g_reduced) D sc_reduced (fun _ _ _ _ _ _ us hl => match us, hl with | [_, _, _], _ => rfl) (fun f cdv A outer s H E hr tk hp => ?_)
  exact (bss_one (bs_ret (be_tup (ba_cons (be_var 0) (ba_cons (be_op op_mod os_mod (be_var 1) (be_var 0)) (ba_cons (be_op (op_add.or (op_add_str.or op_cat)) os_plus (be_var 2) (be_op op_mulX os_mul (be_op op_fdivW os_div (be_var 1) (be_var 0)) (be_var 0))) ba_nil))))))
theorem sc_joined : FnScope ["triple", "other", "modulus", "before", "after"] ["triple", "other"] (defScope s_joined) := ⟨rfl, rfl, rfl, by decide +kernel, rfl, by decide +kernel, by decide +kernel⟩
theorem ok_joined (T : Txt K mg N) (D : GD K "joined" "joined" s_joined (fun f => mg "joined" = some (.ref f))) (G_ceil_to : GF Pg w K mg base N "ceil_to" 1 2 F_ceil_to) (G_reduced : GF Pg w K mg base N "reduced" 1 3 F_reduced) : GF Pg w K mg base N "joined" 2 2 F_joined := by
  have nd := sc_joined.nd
  refine gf_mk (k := 1) (P := []) (g := g_joined) D sc_joined (fun _ _ _ _ _ _ us hl => match us, hl with | [_, _], _ => rfl) (fun f cdv A outer s H E hr tk hp => ?_)
  exact (bss_cons (bs_unp (be_var 0) (bg_tup rfl (bgs_cons (bg_name 2 nd) (bgs_cons (bg_name 3 nd) (bgs_cons (bg_name 4 nd) bgs_nil))))) (bss_cons (bs_if (bt_cmp op_le ops_I0 (be_ix ix_seq os_ix (be_var 1) be_int (fun _ _ => rfl)) (be_var 2) (nomark _)) (bss_one (bs_ret (be_tup (ba_cons (be_var 2) (ba_cons (be_var 3) (ba_cons (be_op (op_add.or (op_add_str.or op_cat)) os_plus (be_callG tk [false, false] G_ceil_to (hr.mono (by decide)) (ba_cons (be_ix ix_seq os_ix (be_var 1) be_int (fun _ _ => rfl)) (ba_cons (be_op (op_add.or (op_add_str.or op_cat)) os_plus (be_var 4) (be_ix ix_seq os_ix (be_var 1) be_int (fun _ _ => rfl))) ba_nil))) (be_ix ix_seq os_ix (be_var 1) be_int (fun _ _ => rfl))) ba_nil)))))) bss_nil) (bss_one (bs_ret (be_callG tk [false, false, false] G_reduced (hr.mono (by decide)) (ba_cons (be_ix ix_seq os_ix (be_var 1) be_int (fun _ _ => rfl)) (ba_cons (be_op (op_add.or (op_add_str.or op_cat)) os_plus (be_var 3) (be_callG tk [false, false] G_ceil_to (hr.mono (by decide)) (ba_cons (be_var 2) (ba_cons (be_op (op_add.or (op_add_str.or op_cat)) os_plus (be_var 4) (be_ix ix_seq os_ix (be_var 1) be_int (fun _ _ => rfl))) ba_nil)))) (ba_cons (be_ix ix_seq os_ix (be_var 1) be_int (fun _ _ => rfl)) ba_nil))))))))
theorem sc_triple_of : FnScope ["nodes", "found", "node"] ["nodes"] (defScope s_triple_of) := ⟨rfl, rfl, rfl, by decide +kernel, rfl, by decide +kernel, by decide +kernel⟩
theorem sc_node_triple : FnScope ["node"] ["node"] (defScope s_node_triple) := ⟨rfl, rfl, rfl, by decide +kernel, rfl, by decide +kernel, by decide +kernel⟩
theorem ok_node_triple_at {n : Nat} {Fr : Fn} (T : Txt K mg N) (D : GD K "node_triple" "node_triple" s_node_triple (fun f => mg "node_triple" = some (.ref f))) (Gr : GF Pg w K mg base N "triple_of" (2 + 1 + 2 * n) 1 Fr) (G_power_of : GF Pg w K mg base N "power_of" 2 2 F_power_of) : GF Pg w K mg base N "node_triple" (2 + 2 + 2 * n) 1 (F_node_triple_at Fr) := by
  have nd := sc_node_triple.nd
  rw [show 2 + 2 + 2 * n = 2 + 1 + 2 * n + 1 by omega]
  refine gf_mk (k := 2 + 1 + 2 * n) (P := []) (g := g_node_triple Fr) D sc_node_triple (fun _ _ _ _ _ _ us hl => match us, hl with | [_], _ => rfl) (fun f cdv A outer s H E hr tk hp => ?_)
  exact (bss_cons (bs_if (bt_cmp (op_eq.or (op_eqD hr.units)) os_eq (be_ix ix_seq os_ix (be_var 0) be_int (fun _ _ => rfl)) be_str (nomark _)) (bss_one (bs_ret (be_tup (ba_cons be_int (ba_cons be_int (ba_cons (be_ix ix_seq os_ix (be_var 0) be_int (fun _ _ => rfl)) ba_nil)))))) bss_nil) (bss_cons (bs_if (bt_cmp (op_eq.or (op_eqD hr.units)) os_eq (be_ix ix_seq os_ix (be_var 0) be_int (fun _ _ => rfl)) be_str (nomark _)) (bss_one (bs_ret (be_tup (ba_cons (be_ix ix_seq os_ix (be_var 0) be_int (fun _ _ => rfl)) (ba_cons be_int (ba_cons be_int ba_nil)))))) bss_nil) (bss_one (bs_ret (be_if (bt_cmp (op_eq.or (op_eqD hr.units)) os_eq (be_ix ix_seq os_ix (be_var 0) be_int (fun _ _ => rfl)) be_str (nomark _)) (be_callG tk [false, false] G_power_of (hr.mono (by omega)) (ba_cons (be_callG tk [false] Gr hr (ba_cons (be_ix ix_seq os_ix (be_var 0) be_int (fun _ _ => rfl)) ba_nil)) (ba_cons (be_ix ix_seq os_ix (be_var 0) be_int (fun _ _ => rfl)) ba_nil))) (be_globP T.c_SAME))))))
theorem ok_triple_of (T : Txt K mg N) (D : GD K "triple_of" "triple_of" s_triple_of (fun f => mg "triple_of" = some (.ref f))) (DI : GD K "node_triple" "node_triple" s_node_triple (fun f => mg "node_triple" = some (.ref f))) (G_joined : GF Pg w K mg base N "joined" 2 2 F_joined) (G_power_of : GF Pg w K mg base N "power_of" 2 2 F_power_of) : GF Pg w K mg base N "triple_of" 35 1 F_triple_of := by
  have nd := sc_triple_of.nd
  refine gf_rec2 (j := 2) (P := []) (g := g_triple_of) D sc_triple_of (fun _ _ _ _ _ _ us hl => match us, hl with | [_], _ => rfl) (fun n Fr Gr f cdv A outer s H E hr tk hp => ?_) 16
  have GI := ok_node_triple_at T DI Gr G_power_of
  exact (bss_cons (bs_set false 1 nd (be_globP T.c_SAME)) (bss_cons (bs_forT hp rfl (be_var 0) (bg_name 2 nd) (bss_one (bs_set false 1 nd (be_callG tk [false, false] G_joined (hr.mono (by omega)) (ba_cons (be_var 1) (ba_cons (be_callG tk [false] GI hr (ba_cons (be_var 2) ba_nil)) ba_nil)))))) (bss_one (bs_ret (be_var 1)))))
theorem ok_node_triple (T : Txt K mg N) (D : GD K "node_triple" "node_triple" s_node_triple (fun f => mg "node_triple" = some (.ref f))) (G_triple_of : GF Pg w K mg base N "triple_of" 35 1 F_triple_of) (G_power_of : GF Pg w K mg base N "power_of" 2 2 F_power_of) : GF Pg w K mg base N "node_triple" 36 1 F_node_triple := by
  exact ok_node_triple_at (n := 16) T D G_triple_of G_power_of
theorem sc_end_from : FnScope ["nodes", "start", "node"] ["nodes", "start"] (defScope s_end_from) := ⟨rfl, rfl, rfl, by decide +kernel, rfl, by decide +kernel, by decide +kernel⟩
theorem ok_end_from (T : Txt K mg N) (D : GD K "end_from" "end_from" s_end_from (fun f => mg "end_from" = some (.ref f))) (G_end_by : GF Pg w K mg base N "end_by" 2 2 F_end_by) (G_node_triple : GF Pg w K mg base N "node_triple" 36 1 F_node_triple) : GF Pg w K mg base N "end_from" 53 2 F_end_from := by
  have nd := sc_end_from.nd
  exact gf_rec (j := 36) (P := []) (g := g_end_from) D sc_end_from (fun _ _ _ _ _ _ us hl => match us, hl with | [_, _], _ => rfl) (fun n Fr Gr f cdv A outer s H E hr tk hp => (bss_cons (bs_forT hp rfl (be_var 0) (bg_name 2 nd) (bss_one (bs_if (bt_cmp (op_eq.or (op_eqD hr.units)) os_eq (be_ix ix_seq os_ix (be_var 2) be_int (fun _ _ => rfl)) be_str (nomark _)) (bss_one (bs_set false 1 nd (be_callB (call_max2 rfl) cs_2I rfl T.n_max (by decide +kernel) (ba_cons (be_callG tk [false, false] Gr hr (ba_cons (be_ix ix_seq os_ix (be_var 2) be_int (fun _ _ => rfl)) (ba_cons (be_var 1) ba_nil))) (ba_cons (be_callG tk [false, false] Gr hr (ba_cons (be_ix ix_seq os_ix (be_var 2) be_int (fun _ _ => rfl)) (ba_cons (be_var 1) ba_nil))) ba_nil))))) (bss_one (bs_set false 1 nd (be_callG tk [false, false] G_end_by (hr.mono (by omega)) (ba_cons (be_callG tk [false] G_node_triple (hr.mono (by omega)) (ba_cons (be_var 2) ba_nil)) (ba_cons (be_var 1) ba_nil)))))))) (bss_one (bs_ret (be_var 1))))) 16
theorem sc_bytes_of : FnScope ["nodes", "found", "node"] ["nodes"] (defScope s_bytes_of) := ⟨rfl, rfl, rfl, by decide +kernel, rfl, by decide +kernel, by decide +kernel⟩
theorem ok_bytes_of (T : Txt K mg N) (D : GD K "bytes_of" "bytes_of" s_bytes_of (fun f => mg "bytes_of" = some (.ref f)))  : GF Pg w K mg base N "bytes_of" 17 1 F_bytes_of := by
  have nd := sc_bytes_of.nd
  exact gf_rec (j := 0) (P := []) (g := g_bytes_of) D sc_bytes_of (fun _ _ _ _ _ _ us hl => match us, hl with | [_], _ => rfl) (fun n Fr Gr f cdv A outer s H E hr tk hp => (bss_cons (bs_set false 1 nd be_int) (bss_cons (bs_forT hp rfl (be_var 0) (bg_name 2 nd) (bss_one (bs_if (bt_cmp (op_eq.or (op_eqD hr.units)) os_eq (be_ix ix_seq os_ix (be_var 2) be_int (fun _ _ => rfl)) be_str (nomark _)) (bss_one (bs_augI 1 nd (be_ix ix_seq os_ix (be_var 2) be_int (fun _ _ => rfl)) ip_add)) (bss_one (bs_if (bt_cmp (op_eq.or (op_eqD hr.units)) os_eq (be_ix ix_seq os_ix (be_var 2) be_int (fun _ _ => rfl)) be_str (nomark _)) (bss_one (bs_augI 1 nd (be_op op_mulX os_mul (be_ix ix_seq os_ix (be_var 2) be_int (fun _ _ => rfl)) (be_callG tk [false] Gr hr (ba_cons (be_ix ix_seq os_ix (be_var 2) be_int (fun _ _ => rfl)) ba_nil))) ip_add)) bss_nil))))) (bss_one (bs_ret (be_var 1)))))) 16
theorem sc_padding : FnScope ["layout", "start", "nodes"] ["layout", "start"] (defScope s_padding) := ⟨rfl, rfl, rfl, by decide +kernel, rfl, by decide +kernel, by decide +kernel⟩
theorem ok_padding (T : Txt K mg N) (D : GD K "padding" "padding" s_padding (fun f => mg "padding" = some (.ref f))) (G_require_plain : GF Pg w K mg base N "require_plain" 3 1 F_require_plain) (G_require_start : GF Pg w K mg base N "require_start" 2 1 F_require_start) (G_nodes_of : GF Pg w K mg base N "nodes_of" 1 1 F_nodes_of) (G_end_from : GF Pg w K mg base N "end_from" 53 2 F_end_from) (G_bytes_of : GF Pg w K mg base N "bytes_of" 17 1 F_bytes_of) : GF Pg w K mg base N "padding" 54 2 F_padding := by
  have nd := sc_padding.nd
  refine gf_mk (k := 53) (P := []) (g := g_padding) D sc_padding (fun _ _ _ _ _ _ us hl => match us, hl with | [_, _], _ => rfl) (fun f cdv A outer s H E hr tk hp => ?_)
  exact (bss_cons (bs_expr (be_callG tk [false] G_require_plain (hr.mono (by decide)) (ba_cons (be_var 0) ba_nil))) (bss_cons (bs_expr (be_callG tk [false] G_require_start (hr.mono (by decide)) (ba_cons (be_var 1) ba_nil))) (bss_cons (bs_set false 2 nd (be_callG tk [false] G_nodes_of (hr.mono (by decide)) (ba_cons (be_var 0) ba_nil))) (bss_one (bs_ret (be_op op_sub ops_I0 (be_op op_sub ops_I0 (be_callG tk [false, false] G_end_from (hr.mono (by decide)) (ba_cons (be_var 2) (ba_cons (be_var 1) ba_nil))) (be_var 1)) (be_callG tk [false] G_bytes_of (hr.mono (by decide)) (ba_cons (be_var 2) ba_nil))))))))
theorem sc_l_grab : FnScope ["_law_silo_here", "_law_bound", "_law_mixed", "_law_found", "_law_turn"] ["_law_silo_here", "_law_bound"] (defScope s_l_grab) := ⟨rfl, rfl, rfl, by decide +kernel, rfl, by decide +kernel, by decide +kernel⟩
theorem ok_l_grab (T : Txt K mg N) (D : GD K "_law_grab" "_law_grab" s_l_grab (fun f => mg "_law_grab" = some (.ref f)))  : GF Pg w K mg base N "_law_grab" 3 2 F_l_grab := by
  have nd := sc_l_grab.nd
  exact gf_rec (j := 0) (P := [0]) (g := g_l_grab) D sc_l_grab (fun _ _ _ _ _ _ us hl => match us, hl with | [_, _], _ => rfl) (fun n Fr Gr f cdv A outer s H E hr tk hp => (bss_cons (bs_if (bt_cmp op_gt ops_I0 (be_var 1) (be_op op_pow os_pow be_int be_int) (nomark _)) (bss_cons (bs_set false 3 nd be_int) (bss_cons (bs_forR1 hp rfl rfl T.n_range (ba_cons (be_op (op_add.or (op_add_str.or op_cat)) os_plus be_int (be_op op_fdivW os_div (be_bits (be_var 1)) be_int)) ba_nil) (bg_name 4 nd) (bss_one (bs_set false 3 nd (be_op (op_add.or (op_add_str.or op_cat)) os_plus (be_op op_mulX os_mul (be_var 3) (be_op op_pow os_pow be_int be_int)) (be_callG tk [true, false] Gr hr (ba_cons (be_var 0) (ba_cons (be_op op_pow os_pow be_int be_int) ba_nil))))))) (bss_one (bs_ret (be_op op_mod os_mod (be_var 3) (be_var 1)))))) bss_nil) (bss_cons (bs_if (bt_cmp op_gt ops_I0 (be_ix ix_seq os_ix (be_var 0) be_int (fun _ _ => rfl)) be_int (nomark _)) (bss_cons (bs_set false 3 nd (be_op op_mod os_mod (be_ix ix_seq os_ix (be_var 0) be_int (fun _ _ => rfl)) (be_var 1))) (bss_cons (bs_setix 0 (be_op op_fdivW os_div (be_ix ix_seq os_ix (be_var 0) be_int (fun _ _ => rfl)) (be_var 1)) be_int) (bss_one (bs_ret (be_var 3))))) bss_nil) (bss_cons (bs_setix 0 (be_op (op_add.or (op_add_str.or op_cat)) os_plus (be_ix ix_seq os_ix (be_var 0) be_int (fun _ _ => rfl)) be_int) be_int) (bss_cons (bs_set false 2 nd (be_op op_mod os_mod (be_op op_powX os_powX (be_op (op_add.or (op_add_str.or op_cat)) os_plus (be_ix ix_seq os_ix (be_var 0) be_int (fun _ _ => rfl)) (be_op op_mulX os_mul be_int (be_ix ix_seq os_ix (be_var 0) be_int (fun _ _ => rfl)))) be_int) (be_op (op_add.or (op_add_str.or op_cat)) os_plus (be_op op_pow os_pow be_int be_int) be_int))) (bss_cons (bs_set false 2 nd (be_op op_mod os_mod (be_op op_powX os_powX (be_op (op_add.or (op_add_str.or op_cat)) os_plus (be_var 2) (be_op op_mulX os_mul be_int (be_ix ix_seq os_ix (be_var 0) be_int (fun _ _ => rfl)))) be_int) (be_op (op_add.or (op_add_str.or op_cat)) os_plus (be_op op_pow os_pow be_int be_int) be_int))) (bss_one (bs_ret (be_op op_mod os_mod (be_op op_fdivW os_div (be_var 2) be_int) (be_var 1)))))))))) 2
theorem sc_padding_range : FnScope ["layout", "nodes", "least", "modulus", "before", "after"] ["layout"] (defScope s_padding_range) := ⟨rfl, rfl, rfl, by decide +kernel, rfl, by decide +kernel, by decide +kernel⟩
theorem ok_padding_range (T : Txt K mg N) (D : GD K "padding_range" "padding_range" s_padding_range (fun f => mg "padding_range" = some (.ref f))) (G_require_plain : GF Pg w K mg base N "require_plain" 3 1 F_require_plain) (G_nodes_of : GF Pg w K mg base N "nodes_of" 1 1 F_nodes_of) (G_triple_of : GF Pg w K mg base N "triple_of" 35 1 F_triple_of) (G_bytes_of : GF Pg w K mg base N "bytes_of" 17 1 F_bytes_of) : GF Pg w K mg base N "padding_range" 36 1 F_padding_range := by
  have nd := sc_padding_range.nd
  refine gf_mk (k := 35) (P := []) (g := g_padding_range) D sc_padding_range (fun _ _ _ _ _ _ us hl => match us, hl with | [_], _ => rfl) (fun f cdv A outer s H E hr tk hp => ?_)
  exact (bss_cons (bs_expr (be_callG tk [false] G_require_plain (hr.mono (by decide)) (ba_cons (be_var 0) ba_nil))) (bss_cons (bs_set false 1 nd (be_callG tk [false] G_nodes_of (hr.mono (by decide)) (ba_cons (be_var 0) ba_nil))) (bss_cons (bs_unp (be_callG tk [false] G_triple_of (hr.mono (by decide)) (ba_cons (be_var 1) ba_nil)) (bg_tup rfl (bgs_cons (bg_name 3 nd) (bgs_cons (bg_name 4 nd) (bgs_cons (bg_name 5 nd) bgs_nil))))) (bss_cons (bs_set false 2 nd (be_op op_sub ops_I0 (be_op (op_add.or (op_add_str.or op_cat)) os_plus (be_var 4) (be_var 5)) (be_callG tk [false] G_bytes_of (hr.mono (by decide)) (ba_cons (be_var 1) ba_nil)))) (bss_one (bs_ret (be_tup (ba_cons (be_var 2) (ba_cons (be_op op_sub ops_I0 (be_op (op_add.or (op_add_str.or op_cat)) os_plus (be_var 2) (be_var 3)) be_int) ba_nil)))))))))
theorem sc_require_number : FnScope ["value"] ["value"] (defScope s_require_number) := ⟨rfl, rfl, rfl, by decide +kernel, rfl, by decide +kernel, by decide +kernel⟩
theorem ok_require_number (T : Txt K mg N) (D : GD K "require_number" "require_number" s_require_number (fun f => mg "require_number" = some (.ref f))) (G_is_int : GF Pg w K mg base N "is_int" 1 1 F_is_int) : GF Pg w K mg base N "require_number" 2 1 F_require_number := by
  have nd := sc_require_number.nd
  refine gf_mk (k := 1) (P := []) (g := g_require_number) D sc_require_number (fun _ _ _ _ _ _ us hl => match us, hl with | [_], _ => rfl) (fun f cdv A outer s H E hr tk hp => ?_)
  exact (bss_one (bs_if (bt_not (bt_val (be_callG tk [false] G_is_int (hr.mono (by decide)) (ba_cons (be_var 0) ba_nil)))) (bss_one bs_never) bss_nil))
theorem sc_starts_with_padding : FnScope ["layout", "number", "least", "greatest", "modulus", "before", "after"] ["layout", "number"] (defScope s_starts_with_padding) := ⟨rfl, rfl, rfl, by decide +kernel, rfl, by decide +kernel, by decide +kernel⟩
theorem ok_starts_with_padding (T : Txt K mg N) (D : GD K "starts_with_padding" "starts_with_padding" s_starts_with_padding (fun f => mg "starts_with_padding" = some (.ref f))) (G_require_plain : GF Pg w K mg base N "require_plain" 3 1 F_require_plain) (G_require_number : GF Pg w K mg base N "require_number" 2 1 F_require_number) (G_padding_range : GF Pg w K mg base N "padding_range" 36 1 F_padding_range) (G_triple_of : GF Pg w K mg base N "triple_of" 35 1 F_triple_of) (G_nodes_of : GF Pg w K mg base N "nodes_of" 1 1 F_nodes_of) : GF Pg w K mg base N "starts_with_padding" 37 2 F_starts_with_padding := by
  have nd := sc_starts_with_padding.nd
  refine gf_mk (k := 36) (P := []) (g := g_starts_with_padding) D sc_starts_with_padding (fun _ _ _ _ _ _ us hl => match us, hl with | [_, _], _ => rfl) (fun f cdv A outer s H E hr tk hp => ?_)
  exact (bss_cons (bs_expr (be_callG tk [false] G_require_plain (hr.mono (by decide)) (ba_cons (be_var 0) ba_nil))) (bss_cons (bs_expr (be_callG tk [false] G_require_number (hr.mono (by decide)) (ba_cons (be_var 1) ba_nil))) (bss_cons (bs_unp (be_callG tk [false] G_padding_range (hr.mono (by decide)) (ba_cons (be_var 0) ba_nil)) (bg_tup rfl (bgs_cons (bg_name 2 nd) (bgs_cons (bg_name 3 nd) bgs_nil)))) (bss_cons (bs_if (bt_not (bt_chain op_le ops_I0 op_le ops_I0 (be_var 2) (be_var 1) (be_var 3))) (bss_one (bs_ret be_non)) bss_nil) (bss_cons (bs_unp (be_callG tk [false] G_triple_of (hr.mono (by decide)) (ba_cons (be_callG tk [false] G_nodes_of (hr.mono (by decide)) (ba_cons (be_var 0) ba_nil)) ba_nil)) (bg_tup rfl (bgs_cons (bg_name 4 nd) (bgs_cons (bg_name 5 nd) (bgs_cons (bg_name 6 nd) bgs_nil))))) (bss_one (bs_ret (be_tup (ba_cons (be_op op_mod os_mod (be_op op_sub ops_I0 (be_op op_sub ops_I0 (be_var 2) (be_var 1)) (be_var 5)) (be_var 4)) (ba_cons be_int (ba_cons (be_var 4) ba_nil)))))))))))
theorem sc_l_in_arc : FnScope ["_law_arc_here", "_law_start_here", "_law_first", "_law_length", "_law_period"] ["_law_arc_here", "_law_start_here"] (defScope s_l_in_arc) := ⟨rfl, rfl, rfl, by decide +kernel, rfl, by decide +kernel, by decide +kernel⟩
theorem ok_l_in_arc (T : Txt K mg N) (D : GD K "_law_in_arc" "_law_in_arc" s_l_in_arc (fun f => mg "_law_in_arc" = some (.ref f)))  : GF Pg w K mg base N "_law_in_arc" 1 2 F_l_in_arc := by
  have nd := sc_l_in_arc.nd
  refine gf_mk (k := 0) (P := []) (g := g_l_in_arc) D sc_l_in_arc (fun _ _ _ _ _ _ us hl => match us, hl with | [_, _], _ => rfl) (fun f cdv A outer s H E hr tk hp => ?_)
  exact (bss_cons (bs_unp (be_var 0) (bg_tup rfl (bgs_cons (bg_name 2 nd) (bgs_cons (bg_name 3 nd) (bgs_cons (bg_name 4 nd) bgs_nil))))) (bss_one (bs_ret (be_cmp op_lt ops_I0 (be_op op_mod os_mod (be_op op_sub ops_I0 (be_var 1) (be_var 2)) (be_var 4)) (be_var 3) (nomark _)))))
theorem sc_l_right : FnScope ["_law_silo_here", "_law_nodes_here", "_law_layout_here", "_law_wide_here", "_law_rows_here", "_law_start_here", "_law_far_here", "_law_number_here", "_law_told", "_law_inside"] ["_law_silo_here", "_law_nodes_here"] (defScope s_l_right) := ⟨rfl, rfl, rfl, by decide +kernel, rfl, by decide +kernel, by decide +kernel⟩
theorem ok_l_right (T : Txt K mg N) (D : GD K "_law_right" "_law_right" s_l_right (fun f => mg "_law_right" = some (.ref f))) (GC_Layout : GMk Pg w K mg base N "Layout" 10 19 1 F_Layout_init) (G_l_words : GF Pg w K mg base N "_law_words" 17 1 F_l_words) (G_Layout_alignment : GM Pg w K mg base N 1 1 F_Layout_alignment (fun q => Cls K (N.cl 10) ∧ ∃ r, PropOf K (N.cl 10) "alignment" r q)) (G_l_gaps : GF Pg w K mg base N "_law_gaps" 20 2 F_l_gaps) (G_padding : GF Pg w K mg base N "padding" 54 2 F_padding) (G_l_grab : GF Pg w K mg base N "_law_grab" 3 2 F_l_grab) (G_padding_range : GF Pg w K mg base N "padding_range" 36 1 F_padding_range) (G_starts_with_padding : GF Pg w K mg base N "starts_with_padding" 37 2 F_starts_with_padding) (G_l_in_arc : GF Pg w K mg base N "_law_in_arc" 1 2 F_l_in_arc) : GF Pg w K mg base N "_law_right" 55 2 F_l_right := by
  have nd := sc_l_right.nd
  refine gf_mk (k := 54) (P := [0]) (g := g_l_right) D sc_l_right (fun _ _ _ _ _ _ us hl => match us, hl with | [_, _], _ => rfl) (fun f cdv A outer s H E hr tk hp => ?_)
  exact (bss_cons (bs_set false 2 nd (be_makeG tk 10 [false] GC_Layout (hr.mono (by decide)) (ba_cons (be_join be_str (be_callG tk [false] G_l_words (hr.mono (by decide)) (ba_cons (be_var 1) ba_nil))) ba_nil))) (bss_cons (bs_set false 3 nd (be_propG 10 G_Layout_alignment (hr.mono (by decide)) (be_var 2))) (bss_cons (bs_set false 4 nd (be_lcR1 [("_law_start_here", 5)] rfl nd rfl T.n_range (ba_cons (be_var 3) ba_nil) (by show BlkOk ["_law_silo_here", "_law_nodes_here", "_law_layout_here", "_law_wide_here", "_law_rows_here", "_law_start_here", "_law_far_here", "_law_number_here", "_law_told", "_law_inside"] (defScope s_l_right) _ _; exact ⟨rfl, by decide +kernel, by decide +kernel, by decide +kernel, by decide +kernel⟩) (fun _ _ _ _ _ _ hP => (bg_name 5 nd (hP 5 (by decide)))) (fun _ _ _ _ _ => bts_nil) (fun _ _ _ _ _ => (be_callG take0 [false, false] G_l_gaps (hr.mono (by decide)) (ba_cons (be_var 1) (ba_cons (be_var 5) ba_nil)))))) (bss_cons (bs_forR1 hp rfl rfl T.n_range (ba_cons (be_var 3) ba_nil) (bg_name 5 nd) (bss_one (bs_if (bt_cmp (op_ne.or (op_neD hr.units)) os_ne (be_callB (call_reprD hr.gd hr.units) cs_reprD rfl T.n_repr (by decide +kernel) (ba_cons (be_callG tk [false, false] G_padding (hr.mono (by decide)) (ba_cons (be_var 2) (ba_cons (be_var 5) ba_nil))) ba_nil)) (be_callB (call_reprD hr.gd hr.units) cs_reprD rfl T.n_repr (by decide +kernel) (ba_cons (be_ix ix_seq os_ix (be_var 4) (be_var 5) (fun _ _ => rfl)) ba_nil)) (nomark _)) (bss_one (bs_ret be_bl)) bss_nil))) (bss_cons (bs_set false 6 nd (be_op (op_add.or (op_add_str.or op_cat)) os_plus (be_op op_mulX os_mul (be_var 3) (be_callG tk [true, false] G_l_grab (hr.mono (by decide)) (ba_cons (be_var 0) (ba_cons (be_op op_pow os_pow be_int be_int) ba_nil)))) (be_callG tk [true, false] G_l_grab (hr.mono (by decide)) (ba_cons (be_var 0) (ba_cons (be_var 3) ba_nil))))) (bss_cons (bs_if (bt_cmp (op_ne.or (op_neD hr.units)) os_ne (be_callG tk [false, false] G_padding (hr.mono (by decide)) (ba_cons (be_var 2) (ba_cons (be_var 6) ba_nil))) (be_ix ix_seq os_ix (be_var 4) (be_op op_mod os_mod (be_var 6) (be_var 3)) (fun _ _ => rfl)) (nomark _)) (bss_one (bs_ret be_bl)) bss_nil) (bss_cons (bs_if (bt_cmp (op_ne.or (op_neD hr.units)) os_ne (be_callB (call_reprD hr.gd hr.units) cs_reprD rfl T.n_repr (by decide +kernel) (ba_cons (be_op op_rep os_rep (be_lst (ba_cons (be_callG tk [false] G_padding_range (hr.mono (by decide)) (ba_cons (be_var 2) ba_nil)) ba_nil)) be_int) ba_nil)) (be_callB (call_reprD hr.gd hr.units) cs_reprD rfl T.n_repr (by decide +kernel) (ba_cons (be_op op_rep os_rep (be_lst (ba_cons (be_tup (ba_cons (be_callB (cr_min rfl) cs_minL rfl T.n_min (by decide +kernel) (ba_cons (be_var 4) ba_nil)) (ba_cons (be_callB (cr_max rfl) cs_maxL rfl T.n_max (by decide +kernel) (ba_cons (be_var 4) ba_nil)) ba_nil))) ba_nil)) be_int) ba_nil)) (nomark _)) (bss_one (bs_ret be_bl)) bss_nil) (bss_cons (bs_if (bt_cmp (op_ne.or (op_neD hr.units)) os_ne (be_callB cr_sortedI cs_sorted rfl T.n_sorted (by decide +kernel) (ba_cons (be_var 4) ba_nil)) (be_listRg rfl rfl T.n_list rfl T.n_range (be_callB (cr_min rfl) cs_minL rfl T.n_min (by decide +kernel) (ba_cons (be_var 4) ba_nil)) (be_op (op_add.or (op_add_str.or op_cat)) os_plus (be_callB (cr_max rfl) cs_maxL rfl T.n_max (by decide +kernel) (ba_cons (be_var 4) ba_nil)) be_int)) (nomark _)) (bss_one (bs_ret be_bl)) bss_nil) (bss_cons (bs_forL hp rfl (be_op (op_add.or (op_add_str.or op_cat)) os_plus (be_lst (ba_cons (be_op op_sub ops_I0 (be_callB (cr_min rfl) cs_minL rfl T.n_min (by decide +kernel) (ba_cons (be_var 4) ba_nil)) be_int) (ba_cons (be_op (op_add.or (op_add_str.or op_cat)) os_plus (be_callB (cr_max rfl) cs_maxL rfl T.n_max (by decide +kernel) (ba_cons (be_var 4) ba_nil)) be_int) (ba_cons (be_neg be_int) (ba_cons (be_op op_pow os_pow be_int be_int) (ba_cons (be_op op_sub ops_I0 be_int (be_op op_pow os_pow be_int be_int)) ba_nil)))))) (be_srtSet rfl rfl T.n_sorted rfl T.n_set (ba_cons (be_var 4) ba_nil))) (bg_name 7 nd) (bss_cons (bs_set false 8 nd (be_callG tk [false, false] G_starts_with_padding (hr.mono (by decide)) (ba_cons (be_var 2) (ba_cons (be_var 7) ba_nil)))) (bss_one (bs_if (bt_cmp op_notIn_seq os_in (be_var 7) (be_var 4) rfl) (bss_one (bs_if (bt_cmp op_notN os_notN (be_var 8) be_non (nomark _)) (bss_one (bs_ret be_bl)) bss_nil)) (bss_one (bs_if (bt_w (bw_or (bt_not (bt_val (be_isi (be_var 8) (pe_bltn (v := .ty "tuple") (u := .type "tuple") rfl T.n_tuple (by decide +kernel) rfl) (.ty _) T.isi_tuple rfl T.n_isinstance))) (bw_or (bt_cmp (op_ne.or (op_neD hr.units)) os_ne (be_sliceT (be_var 8) (bp_some be_int) bp_none) (be_tup (ba_cons be_int (ba_cons (be_var 3) ba_nil))) (nomark _)) (bw_or1 (bt_not (bt_chain op_le ops_I0 op_lt ops_I0 be_int (be_ix ix_seq os_ix (be_var 8) be_int (fun _ _ => rfl)) (be_var 3))))))) (bss_one (bs_ret be_bl)) (bss_cons (bs_setLcR1 false 9 [("_law_start_here", 5)] rfl nd rfl T.n_range (ba_cons (be_var 3) ba_nil) (by show BlkOk ["_law_silo_here", "_law_nodes_here", "_law_layout_here", "_law_wide_here", "_law_rows_here", "_law_start_here", "_law_far_here", "_law_number_here", "_law_told", "_law_inside"] (defScope s_l_right) _ _; exact ⟨rfl, by decide +kernel, by decide +kernel, by decide +kernel, by decide +kernel⟩) (fun _ _ _ _ _ _ hP => (bg_name 5 nd (hP 5 (by decide)))) (fun _ _ _ _ _ => (bts_one (bt_val (be_callG take0 [false, false] G_l_in_arc (hr.mono (by decide)) (ba_cons (be_var 8) (ba_cons (be_var 5) ba_nil)))))) (fun _ _ _ _ _ => (be_var 5))) (bss_one (bs_if (bt_cmp (op_ne.or (op_neD hr.units)) os_ne (be_var 9) (be_lcR1 [("_law_start_here", 5)] rfl nd rfl T.n_range (ba_cons (be_var 3) ba_nil) (by show BlkOk ["_law_silo_here", "_law_nodes_here", "_law_layout_here", "_law_wide_here", "_law_rows_here", "_law_start_here", "_law_far_here", "_law_number_here", "_law_told", "_law_inside"] (defScope s_l_right) _ _; exact ⟨rfl, by decide +kernel, by decide +kernel, by decide +kernel, by decide +kernel⟩) (fun _ _ _ _ _ _ hP => (bg_name 5 nd (hP 5 (by decide)))) (fun _ _ _ _ _ => (bts_one (bt_cmp (op_eq.or (op_eqD hr.units)) os_eq (be_ix ix_seq os_ix (be_var 4) (be_var 5) (fun _ _ => rfl)) (be_var 7) (nomark _)))) (fun _ _ _ _ _ => (be_var 5))) (nomark _)) (bss_one (bs_ret be_bl)) bss_nil))))))))) (bss_one (bs_ret be_bl)))))))))))
theorem sc_l_power : FnScope ["_law_silo_here", "_law_most", "_law_found", "_law_turn"] ["_law_silo_here", "_law_most"] (defScope s_l_power) := ⟨rfl, rfl, rfl, by decide +kernel, rfl, by decide +kernel, by decide +kernel⟩
theorem ok_l_power (T : Txt K mg N) (D : GD K "_law_power" "_law_power" s_l_power (fun f => mg "_law_power" = some (.ref f))) (G_l_grab : GF Pg w K mg base N "_law_grab" 3 2 F_l_grab) : GF Pg w K mg base N "_law_power" 4 2 F_l_power := by
  have nd := sc_l_power.nd
  refine gf_mk (k := 3) (P := [0]) (g := g_l_power) D sc_l_power (fun _ _ _ _ _ _ us hl => match us, hl with | [_, _], _ => rfl) (fun f cdv A outer s H E hr tk hp => ?_)
  exact (bss_cons (bs_set false 2 nd be_int) (bss_cons (bs_forR1 hp rfl rfl T.n_range (ba_cons (be_callG tk [true, false] G_l_grab (hr.mono (by decide)) (ba_cons (be_var 0) (ba_cons (be_var 1) ba_nil))) ba_nil) (bg_name 3 nd) (bss_one (bs_set false 2 nd (be_op op_mulX os_mul be_int (be_var 2))))) (bss_one (bs_ret (be_var 2)))))
theorem sc_l_count : FnScope ["_law_nodes_here", "_law_found", "_law_node"] ["_law_nodes_here"] (defScope s_l_count) := ⟨rfl, rfl, rfl, by decide +kernel, rfl, by decide +kernel, by decide +kernel⟩
theorem ok_l_count (T : Txt K mg N) (D : GD K "_law_count" "_law_count" s_l_count (fun f => mg "_law_count" = some (.ref f)))  : GF Pg w K mg base N "_law_count" 17 1 F_l_count := by
  have nd := sc_l_count.nd
  exact gf_rec (j := 0) (P := []) (g := g_l_count) D sc_l_count (fun _ _ _ _ _ _ us hl => match us, hl with | [_], _ => rfl) (fun n Fr Gr f cdv A outer s H E hr tk hp => (bss_cons (bs_set false 1 nd be_int) (bss_cons (bs_forL hp rfl (be_var 0) (bg_name 2 nd) (bss_one (bs_if (bt_cmp (op_eq.or (op_eqD hr.units)) os_eq (be_ix ix_seq os_ix (be_var 2) be_int (fun _ _ => rfl)) be_str (nomark _)) (bss_one (bs_set false 1 nd (be_op (op_add.or (op_add_str.or op_cat)) os_plus (be_var 1) (be_op op_mulX os_mul (be_ix ix_seq os_ix (be_var 2) be_int (fun _ _ => rfl)) (be_callG tk [false] Gr hr (ba_cons (be_ix ix_seq os_ix (be_var 2) be_int (fun _ _ => rfl)) ba_nil)))))) (bss_one (bs_if (bt_cmp (op_eq.or (op_eqD hr.units)) os_eq (be_ix ix_seq os_ix (be_var 2) be_int (fun _ _ => rfl)) be_str (nomark _)) (bss_one (bs_set false 1 nd (be_op (op_add.or (op_add_str.or op_cat)) os_plus (be_op (op_add.or (op_add_str.or op_cat)) os_plus (be_var 1) (be_callG tk [false] Gr hr (ba_cons (be_ix ix_seq os_ix (be_var 2) be_int (fun _ _ => rfl)) ba_nil))) (be_callG tk [false] Gr hr (ba_cons (be_ix ix_seq os_ix (be_var 2) be_int (fun _ _ => rfl)) ba_nil))))) (bss_one (bs_set false 1 nd (be_op (op_add.or (op_add_str.or op_cat)) os_plus (be_var 1) be_int)))))))) (bss_one (bs_ret (be_var 1)))))) 16
theorem sc_l_nodes : FnScope ["_law_silo_here", "_law_most", "_law_deep", "_law_names_here", "_law_style", "_law_turn", "_law_found", "_law_count_here", "_law_way", "_law_node", "_law_cost", "_law_many", "_law_inner"] ["_law_silo_here", "_law_most", "_law_deep", "_law_names_here", "_law_style"] (defScope s_l_nodes) := ⟨rfl, rfl, rfl, by decide +kernel, rfl, by decide +kernel, by decide +kernel⟩
theorem ok_l_nodes (T : Txt K mg N) (D : GD K "_law_nodes" "_law_nodes" s_l_nodes (fun f => mg "_law_nodes" = some (.ref f))) (G_l_grab : GF Pg w K mg base N "_law_grab" 3 2 F_l_grab) (G_l_power : GF Pg w K mg base N "_law_power" 4 2 F_l_power) (G_l_count : GF Pg w K mg base N "_law_count" 17 1 F_l_count) : GF Pg w K mg base N "_law_nodes" 26 5 F_l_nodes := by
  have nd := sc_l_nodes.nd
  exact gf_rec (j := 17) (P := [0, 3]) (g := g_l_nodes) D sc_l_nodes (fun _ _ _ _ _ _ us hl => match us, hl with | [_, _, _, _, _], _ => rfl) (fun n Fr Gr f cdv A outer s H E hr tk hp => (bss_cons (bs_par false false 6 7 rfl nd (ba_cons (be_lst ba_nil) (ba_cons be_int ba_nil))) (bss_cons (bs_forR1 hp rfl rfl T.n_range (ba_cons (be_op (op_add.or (op_add_str.or op_cat)) os_plus be_int (be_callG tk [true, false] G_l_grab (hr.mono (by omega)) (ba_cons (be_var 0) (ba_cons be_int ba_nil)))) ba_nil) (bg_name 5 nd) (bss_cons (bs_set false 8 nd (be_callG tk [true, false] G_l_grab (hr.mono (by omega)) (ba_cons (be_var 0) (ba_cons be_int ba_nil)))) (bss_cons (bs_set false 9 nd (be_tup (ba_cons be_str (ba_cons (be_ix ix_seq os_ix (be_lst (ba_cons (be_callG tk [true, false] G_l_grab (hr.mono (by omega)) (ba_cons (be_var 0) (ba_cons (be_ix ix_seq os_ix (be_var 4) be_int (fun _ _ => rfl)) ba_nil))) (ba_cons (be_callG tk [true, false] G_l_grab (hr.mono (by omega)) (ba_cons (be_var 0) (ba_cons be_int ba_nil))) ba_nil))) (be_callG tk [true, false] G_l_grab (hr.mono (by omega)) (ba_cons (be_var 0) (ba_cons be_int ba_nil))) (fun _ _ => rfl)) ba_nil)))) (bss_cons (bs_if (bt_w (bw_and (bt_cmp (op_eq.or (op_eqD hr.units)) os_eq (be_var 8) be_int (nomark _)) (bw_and (bt_cmp op_gt ops_I0 (be_var 2) be_int (nomark _)) (bw_and1 (bt_cmp op_gt ops_I0 (be_op op_sub ops_I0 (be_var 1) (be_var 7)) be_int (nomark _)))))) (bss_cons (bs_set false 11 nd (be_op (op_add.or (op_add_str.or op_cat)) os_plus be_int (be_callG tk [true, false] G_l_grab (hr.mono (by omega)) (ba_cons (be_var 0) (ba_cons be_int ba_nil))))) (bss_cons (bs_set false 12 nd (be_callG tk [true, false, false, true, false] Gr hr (ba_cons (be_var 0) (ba_cons (be_op op_fdivW os_div (be_op op_sub ops_I0 (be_var 1) (be_var 7)) (be_var 11)) (ba_cons (be_op op_sub ops_I0 (be_var 2) be_int) (ba_cons (be_var 3) (ba_cons (be_var 4) ba_nil))))))) (bss_one (bs_if (bt_cmp (op_ne.or (op_neD hr.units)) os_ne (be_var 12) (be_lst ba_nil) (nomark _)) (bss_one (bs_set false 9 nd (be_tup (ba_cons be_str (ba_cons (be_var 11) (ba_cons (be_var 12) ba_nil)))))) bss_nil)))) (bss_one (bs_if (bt_cmp op_lt ops_I0 (be_var 8) be_int (nomark _)) (bss_one (bs_set false 9 nd (be_tup (ba_cons be_str (ba_cons (be_callG tk [true, false] G_l_power (hr.mono (by omega)) (ba_cons (be_var 0) (ba_cons (be_ix ix_seq os_ix (be_var 4) be_int (fun _ _ => rfl)) ba_nil))) ba_nil))))) (bss_one (bs_if (bt_w (bw_and (bt_cmp op_lt ops_I0 (be_var 8) be_int (nomark _)) (bw_and1 (bt_cmp (op_ne.or (op_neD hr.units)) os_ne (be_var 3) (be_lst ba_nil) (nomark _))))) (bss_one (bs_set false 9 nd (be_tup (ba_cons be_str (ba_cons (be_popAt 3 (ba_cons (be_callG tk [true, false] G_l_grab (hr.mono (by omega)) (ba_cons (be_var 0) (ba_cons (be_callB call_lenB cs_len rfl T.n_len (by decide +kernel) (ba_cons (be_var 3) ba_nil)) ba_nil))) ba_nil)) ba_nil))))) bss_nil))))) (bss_cons (bs_set false 10 nd (be_callG tk [false] G_l_count (hr.mono (by omega)) (ba_cons (be_lst (ba_cons (be_var 9) ba_nil)) ba_nil))) (bss_one (bs_if (bt_cmp op_le ops_I0 (be_op (op_add.or (op_add_str.or op_cat)) os_plus (be_var 7) (be_var 10)) (be_var 1) (nomark _)) (bss_one (bs_par false false 6 7 rfl nd (ba_cons (be_op (op_add.or (op_add_str.or op_cat)) os_plus (be_var 6) (be_lst (ba_cons (be_var 9) ba_nil))) (ba_cons (be_op (op_add.or (op_add_str.or op_cat)) os_plus (be_var 7) (be_var 10)) ba_nil)))) bss_nil))))))) (bss_one (bs_ret (be_var 6)))))) 8
theorem sc_l_names : FnScope [] [] (defScope s_l_names) := ⟨rfl, rfl, rfl, by decide +kernel, rfl, by decide +kernel, by decide +kernel⟩
theorem ok_l_names (T : Txt K mg N) (D : GD K "_law_names" "_law_names" s_l_names (fun f => mg "_law_names" = some (.ref f)))  : GF Pg w K mg base N "_law_names" 1 0 F_l_names := by
  have nd := sc_l_names.nd
  refine gf_mk (k := 0) (P := []) (g := g_l_names) D sc_l_names (fun _ _ _ _ _ _ us hl => match us, hl with | [], _ => rfl) (fun f cdv A outer s H E hr tk hp => ?_)
  exact (bss_one (bs_ret (be_lst (ba_cons be_str (ba_cons be_str (ba_cons be_str (ba_cons be_str (ba_cons be_str (ba_cons be_str (ba_cons be_str (ba_cons be_str (ba_cons be_str (ba_cons be_str (ba_cons be_str (ba_cons be_str (ba_cons be_str (ba_cons be_str (ba_cons be_str (ba_cons be_str ba_nil)))))))))))))))))))
theorem sc_l_wide : FnScope ["_law_silo_here", "_law_style", "_law_turn", "_law_letters_here", "_law_found", "_law_name_here", "_law_part"] ["_law_silo_here", "_law_style"] (defScope s_l_wide) := ⟨rfl, rfl, rfl, by decide +kernel, rfl, by decide +kernel, by decide +kernel⟩
theorem ok_l_wide (T : Txt K mg N) (D : GD K "_law_wide" "_law_wide" s_l_wide (fun f => mg "_law_wide" = some (.ref f))) (G_l_power : GF Pg w K mg base N "_law_power" 4 2 F_l_power) (G_l_grab : GF Pg w K mg base N "_law_grab" 3 2 F_l_grab) (G_l_words : GF Pg w K mg base N "_law_words" 17 1 F_l_words) : GF Pg w K mg base N "_law_wide" 18 2 F_l_wide := by
  have nd := sc_l_wide.nd
  refine gf_mk (k := 17) (P := [0]) (g := g_l_wide) D sc_l_wide (fun _ _ _ _ _ _ us hl => match us, hl with | [_, _], _ => rfl) (fun f cdv A outer s H E hr tk hp => ?_)
  exact (bss_cons (bs_par false false 3 4 rfl nd (ba_cons be_str (ba_cons (be_lst ba_nil) ba_nil))) (bss_cons (bs_forR1 hp rfl rfl T.n_range (ba_cons be_int ba_nil) (bg_name 2 nd) (bss_cons (bs_set false 5 nd (be_op (op_add.or (op_add_str.or op_cat)) os_plus (be_op (op_add.or (op_add_str.or op_cat)) os_plus be_str (be_ix ix_seq os_ix (be_var 3) (be_op op_fdivW os_div (be_var 2) be_int) (fun _ _ => rfl))) (be_ix ix_seq os_ix (be_var 3) (be_op op_mod os_mod (be_var 2) be_int) (fun _ _ => rfl)))) (bss_cons (bs_set false 6 nd (be_lst (ba_cons (be_tup (ba_cons be_str (ba_cons (be_var 5) ba_nil))) (ba_cons (be_tup (ba_cons be_str (ba_cons (be_callG tk [true, false] G_l_grab (hr.mono (by decide)) (ba_cons (be_var 0) (ba_cons (be_ix ix_seq os_ix (be_var 1) be_int (fun _ _ => rfl)) ba_nil))) ba_nil))) (ba_cons (be_tup (ba_cons be_str (ba_cons (be_callG tk [true, false] G_l_power (hr.mono (by decide)) (ba_cons (be_var 0) (ba_cons (be_ix ix_seq os_ix (be_var 1) be_int (fun _ _ => rfl)) ba_nil))) ba_nil))) ba_nil))))) (bss_one (bs_set false 4 nd (be_op (op_add.or (op_add_str.or op_cat)) os_plus (be_var 4) (be_if (bt_cmp (op_eq.or (op_eqD hr.units)) os_eq (be_op op_mod os_mod (be_var 2) be_int) be_int (nomark _)) (be_lst (ba_cons (be_tup (ba_cons be_str (ba_cons (be_op (op_add.or (op_add_str.or op_cat)) os_plus be_int (be_callG tk [true, false] G_l_grab (hr.mono (by decide)) (ba_cons (be_var 0) (ba_cons be_int ba_nil)))) (ba_cons (be_var 6) ba_nil)))) ba_nil)) (be_var 6)))))))) (bss_one (bs_ret (be_op (op_add.or (op_add_str.or op_cat)) os_plus (be_var 4) (be_lcR1 [("_law_turn", 2)] rfl nd rfl T.n_range (ba_cons (be_op op_sub ops_I0 be_int (be_callB call_lenB cs_len rfl T.n_len (by decide +kernel) (ba_cons (be_callG tk [false] G_l_words (hr.mono (by decide)) (ba_cons (be_var 4) ba_nil)) ba_nil))) ba_nil) (by show BlkOk ["_law_silo_here", "_law_style", "_law_turn", "_law_letters_here", "_law_found", "_law_name_here", "_law_part"] (defScope s_l_wide) _ _; exact ⟨rfl, by decide +kernel, by decide +kernel, by decide +kernel, by decide +kernel⟩) (fun _ _ _ _ _ _ hP => (bg_name 2 nd (hP 2 (by decide)))) (fun _ _ _ _ _ => bts_nil) (fun _ _ _ _ _ => (be_tup (ba_cons be_str (ba_cons (be_callG take0 [true, false] G_l_grab (hr.mono (by decide)) (ba_cons (be_var 0) (ba_cons be_int ba_nil))) ba_nil))))))))))
theorem sc_law : FnScope ["_law_script", "_law_k", "_law_silo_here", "_law_one", "_law_told", "_law_most"] ["_law_script"] (defScope s_law) := ⟨rfl, rfl, rfl, by decide +kernel, rfl, by decide +kernel, by decide +kernel⟩
theorem ok_law (T : Txt K mg N) {f : Addr} {fd : FuncData} (F : FnP K "law" "law" s_law f fd) (G_l_silo : GF Pg w K mg base N "_law_silo" 1 2 F_l_silo) (G_l_right : GF Pg w K mg base N "_law_right" 55 2 F_l_right) (G_l_nodes : GF Pg w K mg base N "_law_nodes" 26 5 F_l_nodes) (G_l_grab : GF Pg w K mg base N "_law_grab" 3 2 F_l_grab) (G_l_names : GF Pg w K mg base N "_law_names" 1 0 F_l_names) (G_l_wide : GF Pg w K mg base N "_law_wide" 18 2 F_l_wide) (GC_Layout : GMk Pg w K mg base N "Layout" 10 19 1 F_Layout_init) (G_starts_with_padding : GF Pg w K mg base N "starts_with_padding" 37 2 F_starts_with_padding) (G_padding_range : GF Pg w K mg base N "padding_range" 36 1 F_padding_range) : FnG Pg w K mg base (L2.CX Pg w) 56 f fd ["_law_script"] (spB K N 1 F_law) := by
  have nd := sc_law.nd
  refine fn_okB (k := 55) (n := 1) (Nn := ["_law_script", "_law_k", "_law_silo_here", "_law_one", "_law_told", "_law_most"]) (P := []) (g := g_law) F sc_law rfl (fun cdv A outer s H E hr tk hp => ?_)
  exact (bss_cons (bs_forR1 hp rfl rfl T.n_range (ba_cons (be_callB (call_max2 rfl) cs_2I rfl T.n_max (by decide +kernel) (ba_cons be_int (ba_cons (be_callB (call_min2 rfl) cs_2I rfl T.n_min (by decide +kernel) (ba_cons be_int (ba_cons (be_callB call_lenB cs_len rfl T.n_len (by decide +kernel) (ba_cons (be_var 0) ba_nil)) ba_nil))) ba_nil))) ba_nil) (bg_name 1 nd) (bss_cons (bs_set true 2 nd (be_callG tk [false, false] G_l_silo (hr.mono (by decide)) (ba_cons (be_var 0) (ba_cons (be_var 1) ba_nil)))) (bss_one (bs_forL hp rfl (be_lst (ba_cons be_int (ba_cons be_int (ba_cons be_int ba_nil)))) (bg_name 5 nd) (bss_one (bs_if (bt_not (bt_val (be_callG tk [true, false] G_l_right (hr.mono (by decide)) (ba_cons (be_var 2) (ba_cons (be_callG tk [true, false, false, true, false] G_l_nodes (hr.mono (by decide)) (ba_cons (be_var 2) (ba_cons (be_var 5) (ba_cons be_int (ba_cons (be_callG0 tk G_l_names (hr.mono (by decide))) (ba_cons (be_tup (ba_cons (be_ix ix_seq os_ix (be_lst (ba_cons be_int (ba_cons be_int ba_nil))) (be_callG tk [true, false] G_l_grab (hr.mono (by decide)) (ba_cons (be_var 2) (ba_cons be_int ba_nil))) (fun _ _ => rfl)) (ba_cons be_int ba_nil))) ba_nil)))))) ba_nil))))) (bss_one (bs_ret be_bl)) bss_nil)))))) (bss_cons (bs_set true 2 nd (be_callG tk [false, false] G_l_silo (hr.mono (by decide)) (ba_cons (be_var 0) (ba_cons be_int ba_nil)))) (bss_cons (bs_if (bt_not (bt_val (be_callG tk [true, false] G_l_right (hr.mono (by decide)) (ba_cons (be_var 2) (ba_cons (be_callG tk [true, false] G_l_wide (hr.mono (by decide)) (ba_cons (be_var 2) (ba_cons (be_tup (ba_cons be_int (ba_cons be_int ba_nil))) ba_nil))) ba_nil))))) (bss_one (bs_ret be_bl)) bss_nil) (bss_cons (bs_set false 3 nd (be_makeG tk 10 [false] GC_Layout (hr.mono (by decide)) (ba_cons be_str ba_nil))) (bss_cons (bs_set false 4 nd (be_lst (ba_cons (be_callG tk [false] G_padding_range (hr.mono (by decide)) (ba_cons (be_var 3) ba_nil)) (ba_cons (be_callG tk [false, false] G_starts_with_padding (hr.mono (by decide)) (ba_cons (be_var 3) (ba_cons be_int ba_nil))) (ba_cons (be_callG tk [false, false] G_starts_with_padding (hr.mono (by decide)) (ba_cons (be_makeG tk 10 [false] GC_Layout (hr.mono (by decide)) (ba_cons be_str ba_nil)) (ba_cons be_int ba_nil))) ba_nil))))) (bss_one (bs_ret (be_cmp (op_eq.or (op_eqD hr.units)) os_eq (be_var 4) (be_lst (ba_cons (be_tup (ba_cons be_int (ba_cons be_int ba_nil))) (ba_cons (be_tup (ba_cons be_int (ba_cons be_int (ba_cons be_int ba_nil)))) (ba_cons (be_tup (ba_cons be_int (ba_cons be_int (ba_cons be_int ba_nil)))) ba_nil)))) (nomark _)))))))))
theorem all_ok (T : Txt K mg N) {f : Addr} {fd : FuncData} (F : FnP K "law" "law" s_law f fd) (D_l_silo : GD K "_law_silo" "_law_silo" s_l_silo (fun f => mg "_law_silo" = some (.ref f))) (D_words_of : GD K "words_of" "words_of" s_words_of (fun f => mg "words_of" = some (.ref f))) (D_is_decimal : GD K "is_decimal" "is_decimal" s_is_decimal (fun f => mg "is_decimal" = some (.ref f))) (D_is_int : GD K "is_int" "is_int" s_is_int (fun f => mg "is_int" = some (.ref f))) (D_in_range : GD K "in_range" "in_range" s_in_range (fun f => mg "in_range" = some (.ref f))) (D_is_power : GD K "is_power" "is_power" s_is_power (fun f => mg "is_power" = some (.ref f))) (D_is_align_word : GD K "is_align_word" "is_align_word" s_is_align_word (fun f => mg "is_align_word" = some (.ref f))) (D_is_letters : GD K "is_letters" "is_letters" s_is_letters (fun f => mg "is_letters" = some (.ref f))) (D_is_single : GD K "is_single" "is_single" s_is_single (fun f => mg "is_single" = some (.ref f))) (D_first_wrong : GD K "first_wrong" "first_wrong" s_first_wrong (fun f => mg "first_wrong" = some (.ref f))) (D_nodes_from : GD K "nodes_from" "nodes_from" s_nodes_from (fun f => mg "nodes_from" = some (.ref f))) (D_nodes_in : GD K "nodes_in" "nodes_in" s_nodes_in (fun f => mg "nodes_in" = some (.ref f))) (D_Layout_init : GD K "__init__" "Layout.__init__" s_Layout_init (fun f => mg "Layout" = some (.ref (N.cl 10)) ∧ Mk K (N.cl 10) f)) (D_l_words : GD K "_law_words" "_law_words" s_l_words (fun f => mg "_law_words" = some (.ref f))) (D_Layout_alignment : GD K "alignment" "Layout.alignment" s_Layout_alignment (fun q => Cls K (N.cl 10) ∧ ∃ r, PropOf K (N.cl 10) "alignment" r q)) (D_l_ceil : GD K "_law_ceil" "_law_ceil" s_l_ceil (fun f => mg "_law_ceil" = some (.ref f))) (D_l_walk : GD K "_law_walk" "_law_walk" s_l_walk (fun f => mg "_law_walk" = some (.ref f))) (D_l_rows : GD K "_law_rows" "_law_rows" s_l_rows (fun f => mg "_law_rows" = some (.ref f))) (D_l_gaps : GD K "_law_gaps" "_law_gaps" s_l_gaps (fun f => mg "_law_gaps" = some (.ref f))) (D_require_layout : GD K "require_layout" "require_layout" s_require_layout (fun f => mg "require_layout" = some (.ref f))) (D_Layout_is_plain : GD K "is_plain" "Layout.is_plain" s_Layout_is_plain (fun q => Cls K (N.cl 10) ∧ ∃ r, PropOf K (N.cl 10) "is_plain" r q)) (D_require_plain : GD K "require_plain" "require_plain" s_require_plain (fun f => mg "require_plain" = some (.ref f))) (D_require_start : GD K "require_start" "require_start" s_require_start (fun f => mg "require_start" = some (.ref f))) (D_nodes_of : GD K "nodes_of" "nodes_of" s_nodes_of (fun f => mg "nodes_of" = some (.ref f))) (D_ceil_to : GD K "ceil_to" "ceil_to" s_ceil_to (fun f => mg "ceil_to" = some (.ref f))) (D_end_by : GD K "end_by" "end_by" s_end_by (fun f => mg "end_by" = some (.ref f))) (D_power_of : GD K "power_of" "power_of" s_power_of (fun f => mg "power_of" = some (.ref f))) (D_reduced : GD K "reduced" "reduced" s_reduced (fun f => mg "reduced" = some (.ref f))) (D_joined : GD K "joined" "joined" s_joined (fun f => mg "joined" = some (.ref f))) (D_triple_of : GD K "triple_of" "triple_of" s_triple_of (fun f => mg "triple_of" = some (.ref f))) (D_node_triple : GD K "node_triple" "node_triple" s_node_triple (fun f => mg "node_triple" = some (.ref f))) (D_end_from : GD K "end_from" "end_from" s_end_from (fun f => mg "end_from" = some (.ref f))) (D_bytes_of : GD K "bytes_of" "bytes_of" s_bytes_of (fun f => mg "bytes_of" = some (.ref f))) (D_padding : GD K "padding" "padding" s_padding (fun f => mg "padding" = some (.ref f))) (D_l_grab : GD K "_law_grab" "_law_grab" s_l_grab (fun f => mg "_law_grab" = some (.ref f))) (D_padding_range : GD K "padding_range" "padding_range" s_padding_range (fun f => mg "padding_range" = some (.ref f))) (D_require_number : GD K "require_number" "require_number" s_require_number (fun f => mg "require_number" = some (.ref f))) (D_starts_with_padding : GD K "starts_with_padding" "starts_with_padding" s_starts_with_padding (fun f => mg "starts_with_padding" = some (.ref f))) (D_l_in_arc : GD K "_law_in_arc" "_law_in_arc" s_l_in_arc (fun f => mg "_law_in_arc" = some (.ref f))) (D_l_right : GD K "_law_right" "_law_right" s_l_right (fun f => mg "_law_right" = some (.ref f))) (D_l_power : GD K "_law_power" "_law_power" s_l_power (fun f => mg "_law_power" = some (.ref f))) (D_l_count : GD K "_law_count" "_law_count" s_l_count (fun f => mg "_law_count" = some (.ref f))) (D_l_nodes : GD K "_law_nodes" "_law_nodes" s_l_nodes (fun f => mg "_law_nodes" = some (.ref f))) (D_l_names : GD K "_law_names" "_law_names" s_l_names (fun f => mg "_law_names" = some (.ref f))) (D_l_wide : GD K "_law_wide" "_law_wide" s_l_wide (fun f => mg "_law_wide" = some (.ref f))) : FnG Pg w K mg base (L2.CX Pg w) 56 f fd ["_law_script"] (spB K N 1 F_law) := by
  have G_l_silo : GF Pg w K mg base N "_law_silo" 1 2 F_l_silo := ok_l_silo T D_l_silo 
  have G_words_of : GF Pg w K mg base N "words_of" 1 1 F_words_of := ok_words_of T D_words_of 
  have G_is_decimal : GF Pg w K mg base N "is_decimal" 1 3 F_is_decimal := ok_is_decimal T D_is_decimal 
  have G_is_int : GF Pg w K mg base N "is_int" 1 1 F_is_int := ok_is_int T D_is_int 
  have G_in_range : GF Pg w K mg base N "in_range" 2 3 F_in_range := ok_in_range T D_in_range G_is_int
  have G_is_power : GF Pg w K mg base N "is_power" 3 1 F_is_power := ok_is_power T D_is_power G_in_range
  have G_is_align_word : GF Pg w K mg base N "is_align_word" 4 1 F_is_align_word := ok_is_align_word T D_is_align_word G_is_decimal G_is_power
  have G_is_letters : GF Pg w K mg base N "is_letters" 1 1 F_is_letters := ok_is_letters T D_is_letters 
  have G_is_single : GF Pg w K mg base N "is_single" 5 1 F_is_single := ok_is_single T D_is_single G_is_decimal G_is_align_word G_is_letters
  have G_first_wrong : GF Pg w K mg base N "first_wrong" 6 1 F_first_wrong := ok_first_wrong T D_first_wrong G_is_decimal G_is_single
  have G_nodes_from : GF Pg w K mg base N "nodes_from" 17 2 F_nodes_from := ok_nodes_from T D_nodes_from 
  have G_nodes_in : GF Pg w K mg base N "nodes_in" 18 1 F_nodes_in := ok_nodes_in T D_nodes_in G_nodes_from
  have GC_Layout : GMk Pg w K mg base N "Layout" 10 19 1 F_Layout_init := ok_Layout_init T D_Layout_init G_words_of G_first_wrong G_nodes_in
  have G_l_words : GF Pg w K mg base N "_law_words" 17 1 F_l_words := ok_l_words T D_l_words 
  have G_Layout_alignment : GM Pg w K mg base N 1 1 F_Layout_alignment (fun q => Cls K (N.cl 10) ∧ ∃ r, PropOf K (N.cl 10) "alignment" r q) := ok_Layout_alignment T D_Layout_alignment 
  have G_l_ceil : GF Pg w K mg base N "_law_ceil" 1 2 F_l_ceil := ok_l_ceil T D_l_ceil 
  have G_l_walk : GF Pg w K mg base N "_law_walk" 18 5 F_l_walk := ok_l_walk T D_l_walk G_l_ceil
  have G_l_rows : GF Pg w K mg base N "_law_rows" 19 2 F_l_rows := ok_l_rows T D_l_rows G_l_walk
  have G_l_gaps : GF Pg w K mg base N "_law_gaps" 20 2 F_l_gaps := ok_l_gaps T D_l_gaps G_l_rows
  have G_require_layout : GF Pg w K mg base N "require_layout" 1 1 F_require_layout := ok_require_layout T D_require_layout 
  have G_Layout_is_plain : GM Pg w K mg base N 1 1 F_Layout_is_plain (fun q => Cls K (N.cl 10) ∧ ∃ r, PropOf K (N.cl 10) "is_plain" r q) := ok_Layout_is_plain T D_Layout_is_plain 
  have G_require_plain : GF Pg w K mg base N "require_plain" 3 1 F_require_plain := ok_require_plain T D_require_plain G_require_layout G_Layout_is_plain
  have G_require_start : GF Pg w K mg base N "require_start" 2 1 F_require_start := ok_require_start T D_require_start G_is_int
  have G_nodes_of : GF Pg w K mg base N "nodes_of" 1 1 F_nodes_of := ok_nodes_of T D_nodes_of 
  have G_ceil_to : GF Pg w K mg base N "ceil_to" 1 2 F_ceil_to := ok_ceil_to T D_ceil_to 
  have G_end_by : GF Pg w K mg base N "end_by" 2 2 F_end_by := ok_end_by T D_end_by G_ceil_to
  have G_power_of : GF Pg w K mg base N "power_of" 2 2 F_power_of := ok_power_of T D_power_of G_ceil_to
  have G_reduced : GF Pg w K mg base N "reduced" 1 3 F_reduced := ok_reduced T D_reduced 
  have G_joined : GF Pg w K mg base N "joined" 2 2 F_joined := ok_joined T D_joined G_ceil_to G_reduced
  have G_triple_of : GF Pg w K mg base N "triple_of" 35 1 F_triple_of := ok_triple_of T D_triple_of D_node_triple G_joined G_power_of
  have G_node_triple : GF Pg w K mg base N "node_triple" 36 1 F_node_triple := ok_node_triple T D_node_triple G_triple_of G_power_of
  have G_end_from : GF Pg w K mg base N "end_from" 53 2 F_end_from := ok_end_from T D_end_from G_end_by G_node_triple
  have G_bytes_of : GF Pg w K mg base N "bytes_of" 17 1 F_bytes_of := ok_bytes_of T D_bytes_of 
  have G_padding : GF Pg w K mg base N "padding" 54 2 F_padding := ok_padding T D_padding G_require_plain G_require_start G_nodes_of G_end_from G_bytes_of
  have G_l_grab : GF Pg w K mg base N "_law_grab" 3 2 F_l_grab := ok_l_grab T D_l_grab 
  have G_padding_range : GF Pg w K mg base N "padding_range" 36 1 F_padding_range := ok_padding_range T D_padding_range G_require_plain G_nodes_of G_triple_of G_bytes_of
  have G_require_number : GF Pg w K mg base N "require_number" 2 1 F_require_number := ok_require_number T D_require_number G_is_int
  have G_starts_with_padding : GF Pg w K mg base N "starts_with_padding" 37 2 F_starts_with_padding := ok_starts_with_padding T D_starts_with_padding G_require_plain G_require_number G_padding_range G_triple_of G_nodes_of
  have G_l_in_arc : GF Pg w K mg base N "_law_in_arc" 1 2 F_l_in_arc := ok_l_in_arc T D_l_in_arc 
  have G_l_right : GF Pg w K mg base N "_law_right" 55 2 F_l_right := ok_l_right T D_l_right GC_Layout G_l_words G_Layout_alignment G_l_gaps G_padding G_l_grab G_padding_range G_starts_with_padding G_l_in_arc
  have G_l_power : GF Pg w K mg base N "_law_power" 4 2 F_l_power := ok_l_power T D_l_power G_l_grab
  have G_l_count : GF Pg w K mg base N "_law_count" 17 1 F_l_count := ok_l_count T D_l_count 
  have G_l_nodes : GF Pg w K mg base N "_law_nodes" 26 5 F_l_nodes := ok_l_nodes T D_l_nodes G_l_grab G_l_power G_l_count
  have G_l_names : GF Pg w K mg base N "_law_names" 1 0 F_l_names := ok_l_names T D_l_names 
  have G_l_wide : GF Pg w K mg base N "_law_wide" 18 2 F_l_wide := ok_l_wide T D_l_wide G_l_power G_l_grab G_l_words
  exact ok_law T F G_l_silo G_l_right G_l_nodes G_l_grab G_l_names G_l_wide GC_Layout G_starts_with_padding G_padding_range
end
end L

set_option Elab.async false
set_option linter.all false
set_option maxRecDepth 100000
set_option maxHeartbeats 4000000
namespace L
open PySem L2 B
theorem facts {P : Program} {w : World} {K : PySem.W.Frag} {h : Heap} {mg : Str → Option Value} {f : Addr} (X : K.In h) (G : h.Ns mainGlobals mg) (hfa : mg ("law" : Str) = some (.ref f)) (c : SaysY exL fnL K) :
    ∃ fd : FuncData, (∀ (s : Shared) (v : Value), BindsTo s fd ⟨[v], []⟩ [("_law_script", v)]) ∧ ∀ base : Heap, K.In base → base.Ns mainGlobals mg → FnG P w K mg base CX0 56 f fd ["_law_script"] (fun vs H Q _ => spB K (nm K) 1 F_law vs H Q E0) := by
  have T : Txt K mg (nm K) := {
    n_len := He.free_ok X G (c.fact 0 (f := fFa (.free "len")))
    n_max := He.free_ok X G (c.fact 1 (f := fFa (.free "max")))
    c_MOST_DIGITS := He.int_ok X G (c.fact 2 (f := fFa (.int "MOST_DIGITS" 31)))
    n_all := He.free_ok X G (c.fact 3 (f := fFa (.free "all")))
    c_DIGITS := He.str_ok X G (c.fact 4 (f := fFa (.str "DIGITS" "0123456789")))
    n_int := He.free_ok X G (c.fact 5 (f := fFa (.free "int")))
    n_isinstance := He.free_ok X G (c.fact 6 (f := fFa (.free "isinstance")))
    n_bool := He.free_ok X G (c.fact 7 (f := fFa (.free "bool")))
    c_MOST_ALIGNMENT := He.int_ok X G (c.fact 8 (f := fFa (.int "MOST_ALIGNMENT" 1152921504606846976)))
    n_str := He.free_ok X G (c.fact 9 (f := fFa (.free "str")))
    c_SMALL := He.str_ok X G (c.fact 10 (f := fFa (.str "SMALL" "abcdefghijklmnopqrstuvwxyz")))
    c_MOST_SIZE := He.int_ok X G (c.fact 11 (f := fFa (.int "MOST_SIZE" 1000000000000000000000000000000)))
    c_MOST_WORDS := He.int_ok X G (c.fact 12 (f := fFa (.int "MOST_WORDS" 400)))
    c_MOST_OPEN := He.int_ok X G (c.fact 13 (f := fFa (.int "MOST_OPEN" 12)))
    c_MOST_OVERLAYS := He.int_ok X G (c.fact 14 (f := fFa (.int "MOST_OVERLAYS" 6)))
    c_MOST_TIMES := He.int_ok X G (c.fact 15 (f := fFa (.int "MOST_TIMES" 1000000000000000000000000000000)))
    n_enumerate := He.free_ok X G (c.fact 16 (f := fFa (.free "enumerate")))
    n_tuple := He.free_ok X G (c.fact 17 (f := fFa (.free "tuple")))
    n_range := He.free_ok X G (c.fact 18 (f := fFa (.free "range")))
    n_sum := He.free_ok X G (c.fact 19 (f := fFa (.free "sum")))
    c_SAME := tup_ok X G (c.fact 20 (f := fTup "SAME" [1, 0, 0]))
    n_repr := He.free_ok X G (c.fact 21 (f := fFa (.free "repr")))
    n_min := He.free_ok X G (c.fact 22 (f := fFa (.free "min")))
    n_sorted := He.free_ok X G (c.fact 23 (f := fFa (.free "sorted")))
    n_list := He.free_ok X G (c.fact 24 (f := fFa (.free "list")))
    n_set := He.free_ok X G (c.fact 25 (f := fFa (.free "set")))
    isi_int := isi_ok (N := nm) (u := fun _ => .type "int") (ks := [.non, .bl, .int, .str, .lst, .tup, .own 10]) (yes := [.int, .bl]) (c.fact 27 (f := fIsi nm (fun _ => .type "int") [.non, .bl, .int, .str, .lst, .tup, .own 10] [.int, .bl])) (by decide) (fun i h => by
      simp at h; subst h; exact inst_ok (c.fact 26 (f := fInst "Layout"))) (fun i h => absurd h (by simp))
    isi_bool := isi_ok (N := nm) (u := fun _ => .type "bool") (ks := [.non, .bl, .int, .str, .lst, .tup, .own 10]) (yes := [.bl]) (c.fact 28 (f := fIsi nm (fun _ => .type "bool") [.non, .bl, .int, .str, .lst, .tup, .own 10] [.bl])) (by decide) (fun i h => by
      simp at h; subst h; exact inst_ok (c.fact 26 (f := fInst "Layout"))) (fun i h => absurd h (by simp))
    isi_str := isi_ok (N := nm) (u := fun _ => .type "str") (ks := [.non, .bl, .int, .str, .lst, .tup, .own 10]) (yes := [.str]) (c.fact 29 (f := fIsi nm (fun _ => .type "str") [.non, .bl, .int, .str, .lst, .tup, .own 10] [.str])) (by decide) (fun i h => by
      simp at h; subst h; exact inst_ok (c.fact 26 (f := fInst "Layout"))) (fun i h => absurd h (by simp))
    fl_own_text := rfl
    na_own_text := He.noat_ok (c.fact 30 (f := fFa (.noat "Layout" "own_text")))
    fl_own_words := rfl
    na_own_words := He.noat_ok (c.fact 31 (f := fFa (.noat "Layout" "own_words")))
    fl_own_nodes := rfl
    na_own_nodes := He.noat_ok (c.fact 32 (f := fFa (.noat "Layout" "own_nodes")))
    fl_own_labels := rfl
    na_own_labels := He.noat_ok (c.fact 33 (f := fFa (.noat "Layout" "own_labels")))
    fl_own_alignment := rfl
    na_own_alignment := He.noat_ok (c.fact 34 (f := fFa (.noat "Layout" "own_alignment")))
    isi_Layout := isi_ok (N := nm) (u := fun K => .ref ((nm K).cl 10)) (ks := [.non, .bl, .int, .str, .lst, .tup, .own 10]) (yes := [.own 10]) (c.fact 35 (f := fIsi nm (fun K => .ref ((nm K).cl 10)) [.non, .bl, .int, .str, .lst, .tup, .own 10] [.own 10])) (by decide) (fun i h => by
      simp at h; subst h; exact inst_ok (c.fact 26 (f := fInst "Layout"))) (fun i h => absurd h (by simp))
    mg_Layout := He.glo_ok X G (c.fact 36 (f := fFa (.glo "Layout")))
    isi_tuple := isi_ok (N := nm) (u := fun _ => .type "tuple") (ks := [.non, .bl, .int, .str, .lst, .tup, .own 10]) (yes := [.tup]) (c.fact 37 (f := fIsi nm (fun _ => .type "tuple") [.non, .bl, .int, .str, .lst, .tup, .own 10] [.tup])) (by decide) (fun i h => by
      simp at h; subst h; exact inst_ok (c.fact 26 (f := fInst "Layout"))) (fun i h => absurd h (by simp))
    cl_Layout := (inst_ok (c.fact 26 (f := fInst "Layout"))).cl
  }
  have D_l_silo : GD K "_law_silo" "_law_silo" s_l_silo (fun f => mg "_law_silo" = some (.ref f)) := ⟨let ⟨fd, F⟩ := c.def_ 0 (d := dA_l_silo); ⟨_, fd, F, He.glo_ok X G (c.fact 38 (f := fFa (.glo "_law_silo")))⟩⟩
  have D_words_of : GD K "words_of" "words_of" s_words_of (fun f => mg "words_of" = some (.ref f)) := ⟨let ⟨fd, F⟩ := c.def_ 1 (d := dA_words_of); ⟨_, fd, F, He.glo_ok X G (c.fact 39 (f := fFa (.glo "words_of")))⟩⟩
  have D_is_decimal : GD K "is_decimal" "is_decimal" s_is_decimal (fun f => mg "is_decimal" = some (.ref f)) := ⟨let ⟨fd, F⟩ := c.def_ 2 (d := dA_is_decimal); ⟨_, fd, F, He.glo_ok X G (c.fact 40 (f := fFa (.glo "is_decimal")))⟩⟩
  have D_is_int : GD K "is_int" "is_int" s_is_int (fun f => mg "is_int" = some (.ref f)) := ⟨let ⟨fd, F⟩ := c.def_ 3 (d := dA_is_int); ⟨_, fd, F, He.glo_ok X G (c.fact 41 (f := fFa (.glo "is_int")))⟩⟩
  have D_in_range : GD K "in_range" "in_range" s_in_range (fun f => mg "in_range" = some (.ref f)) := ⟨let ⟨fd, F⟩ := c.def_ 4 (d := dA_in_range); ⟨_, fd, F, He.glo_ok X G (c.fact 42 (f := fFa (.glo "in_range")))⟩⟩
  have D_is_power : GD K "is_power" "is_power" s_is_power (fun f => mg "is_power" = some (.ref f)) := ⟨let ⟨fd, F⟩ := c.def_ 5 (d := dA_is_power); ⟨_, fd, F, He.glo_ok X G (c.fact 43 (f := fFa (.glo "is_power")))⟩⟩
  have D_is_align_word : GD K "is_align_word" "is_align_word" s_is_align_word (fun f => mg "is_align_word" = some (.ref f)) := ⟨let ⟨fd, F⟩ := c.def_ 6 (d := dA_is_align_word); ⟨_, fd, F, He.glo_ok X G (c.fact 44 (f := fFa (.glo "is_align_word")))⟩⟩
  have D_is_letters : GD K "is_letters" "is_letters" s_is_letters (fun f => mg "is_letters" = some (.ref f)) := ⟨let ⟨fd, F⟩ := c.def_ 7 (d := dA_is_letters); ⟨_, fd, F, He.glo_ok X G (c.fact 45 (f := fFa (.glo "is_letters")))⟩⟩
  have D_is_single : GD K "is_single" "is_single" s_is_single (fun f => mg "is_single" = some (.ref f)) := ⟨let ⟨fd, F⟩ := c.def_ 8 (d := dA_is_single); ⟨_, fd, F, He.glo_ok X G (c.fact 46 (f := fFa (.glo "is_single")))⟩⟩
  have D_first_wrong : GD K "first_wrong" "first_wrong" s_first_wrong (fun f => mg "first_wrong" = some (.ref f)) := ⟨let ⟨fd, F⟩ := c.def_ 9 (d := dA_first_wrong); ⟨_, fd, F, He.glo_ok X G (c.fact 47 (f := fFa (.glo "first_wrong")))⟩⟩
  have D_nodes_from : GD K "nodes_from" "nodes_from" s_nodes_from (fun f => mg "nodes_from" = some (.ref f)) := ⟨let ⟨fd, F⟩ := c.def_ 10 (d := dA_nodes_from); ⟨_, fd, F, He.glo_ok X G (c.fact 48 (f := fFa (.glo "nodes_from")))⟩⟩
  have D_nodes_in : GD K "nodes_in" "nodes_in" s_nodes_in (fun f => mg "nodes_in" = some (.ref f)) := ⟨let ⟨fd, F⟩ := c.def_ 11 (d := dA_nodes_in); ⟨_, fd, F, He.glo_ok X G (c.fact 49 (f := fFa (.glo "nodes_in")))⟩⟩
  have D_Layout_init : GD K "__init__" "Layout.__init__" s_Layout_init (fun f => mg "Layout" = some (.ref ((nm K).cl 10)) ∧ Mk K ((nm K).cl 10) f) := ⟨let ⟨fd, F⟩ := c.def_ 12 (d := dA_Layout_init); ⟨_, fd, F, ⟨He.glo_ok X G (c.fact 36 (f := fFa (.glo "Layout"))), He.mkr_ok (c.fact 50 (f := fFa (.mkr "Layout")))⟩⟩⟩
  have D_l_words : GD K "_law_words" "_law_words" s_l_words (fun f => mg "_law_words" = some (.ref f)) := ⟨let ⟨fd, F⟩ := c.def_ 13 (d := dA_l_words); ⟨_, fd, F, He.glo_ok X G (c.fact 51 (f := fFa (.glo "_law_words")))⟩⟩
  have D_Layout_alignment : GD K "alignment" "Layout.alignment" s_Layout_alignment (fun q => Cls K ((nm K).cl 10) ∧ ∃ r, PropOf K ((nm K).cl 10) "alignment" r q) := ⟨let ⟨fd, F⟩ := c.def_ 14 (d := dA_Layout_alignment); ⟨_, fd, F, ⟨(inst_ok (c.fact 26 (f := fInst "Layout"))).cl, _, prop_ok (c.fact 52 (f := fProp "Layout" "alignment"))⟩⟩⟩
  have D_l_ceil : GD K "_law_ceil" "_law_ceil" s_l_ceil (fun f => mg "_law_ceil" = some (.ref f)) := ⟨let ⟨fd, F⟩ := c.def_ 15 (d := dA_l_ceil); ⟨_, fd, F, He.glo_ok X G (c.fact 53 (f := fFa (.glo "_law_ceil")))⟩⟩
  have D_l_walk : GD K "_law_walk" "_law_walk" s_l_walk (fun f => mg "_law_walk" = some (.ref f)) := ⟨let ⟨fd, F⟩ := c.def_ 16 (d := dA_l_walk); ⟨_, fd, F, He.glo_ok X G (c.fact 54 (f := fFa (.glo "_law_walk")))⟩⟩
  have D_l_rows : GD K "_law_rows" "_law_rows" s_l_rows (fun f => mg "_law_rows" = some (.ref f)) := ⟨let ⟨fd, F⟩ := c.def_ 17 (d := dA_l_rows); ⟨_, fd, F, He.glo_ok X G (c.fact 55 (f := fFa (.glo "_law_rows")))⟩⟩
  have D_l_gaps : GD K "_law_gaps" "_law_gaps" s_l_gaps (fun f => mg "_law_gaps" = some (.ref f)) := ⟨let ⟨fd, F⟩ := c.def_ 18 (d := dA_l_gaps); ⟨_, fd, F, He.glo_ok X G (c.fact 56 (f := fFa (.glo "_law_gaps")))⟩⟩
  have D_require_layout : GD K "require_layout" "require_layout" s_require_layout (fun f => mg "require_layout" = some (.ref f)) := ⟨let ⟨fd, F⟩ := c.def_ 19 (d := dA_require_layout); ⟨_, fd, F, He.glo_ok X G (c.fact 57 (f := fFa (.glo "require_layout")))⟩⟩
  have D_Layout_is_plain : GD K "is_plain" "Layout.is_plain" s_Layout_is_plain (fun q => Cls K ((nm K).cl 10) ∧ ∃ r, PropOf K ((nm K).cl 10) "is_plain" r q) := ⟨let ⟨fd, F⟩ := c.def_ 20 (d := dA_Layout_is_plain); ⟨_, fd, F, ⟨(inst_ok (c.fact 26 (f := fInst "Layout"))).cl, _, prop_ok (c.fact 58 (f := fProp "Layout" "is_plain"))⟩⟩⟩
  have D_require_plain : GD K "require_plain" "require_plain" s_require_plain (fun f => mg "require_plain" = some (.ref f)) := ⟨let ⟨fd, F⟩ := c.def_ 21 (d := dA_require_plain); ⟨_, fd, F, He.glo_ok X G (c.fact 59 (f := fFa (.glo "require_plain")))⟩⟩
  have D_require_start : GD K "require_start" "require_start" s_require_start (fun f => mg "require_start" = some (.ref f)) := ⟨let ⟨fd, F⟩ := c.def_ 22 (d := dA_require_start); ⟨_, fd, F, He.glo_ok X G (c.fact 60 (f := fFa (.glo "require_start")))⟩⟩
  have D_nodes_of : GD K "nodes_of" "nodes_of" s_nodes_of (fun f => mg "nodes_of" = some (.ref f)) := ⟨let ⟨fd, F⟩ := c.def_ 23 (d := dA_nodes_of); ⟨_, fd, F, He.glo_ok X G (c.fact 61 (f := fFa (.glo "nodes_of")))⟩⟩
  have D_ceil_to : GD K "ceil_to" "ceil_to" s_ceil_to (fun f => mg "ceil_to" = some (.ref f)) := ⟨let ⟨fd, F⟩ := c.def_ 24 (d := dA_ceil_to); ⟨_, fd, F, He.glo_ok X G (c.fact 62 (f := fFa (.glo "ceil_to")))⟩⟩
  have D_end_by : GD K "end_by" "end_by" s_end_by (fun f => mg "end_by" = some (.ref f)) := ⟨let ⟨fd, F⟩ := c.def_ 25 (d := dA_end_by); ⟨_, fd, F, He.glo_ok X G (c.fact 63 (f := fFa (.glo "end_by")))⟩⟩
  have D_power_of : GD K "power_of" "power_of" s_power_of (fun f => mg "power_of" = some (.ref f)) := ⟨let ⟨fd, F⟩ := c.def_ 26 (d := dA_power_of); ⟨_, fd, F, He.glo_ok X G (c.fact 64 (f := fFa (.glo "power_of")))⟩⟩
  have D_reduced : GD K "reduced" "reduced" s_reduced (fun f => mg "reduced" = some (.ref f)) := ⟨let ⟨fd, F⟩ := c.def_ 27 (d := dA_reduced); ⟨_, fd, F, He.glo_ok X G (c.fact 65 (f := fFa (.glo "reduced")))⟩⟩
  have D_joined : GD K "joined" "joined" s_joined (fun f => mg "joined" = some (.ref f)) := ⟨let ⟨fd, F⟩ := c.def_ 28 (d := dA_joined); ⟨_, fd, F, He.glo_ok X G (c.fact 66 (f := fFa (.glo "joined")))⟩⟩
  have D_triple_of : GD K "triple_of" "triple_of" s_triple_of (fun f => mg "triple_of" = some (.ref f)) := ⟨let ⟨fd, F⟩ := c.def_ 29 (d := dA_triple_of); ⟨_, fd, F, He.glo_ok X G (c.fact 67 (f := fFa (.glo "triple_of")))⟩⟩
  have D_node_triple : GD K "node_triple" "node_triple" s_node_triple (fun f => mg "node_triple" = some (.ref f)) := ⟨let ⟨fd, F⟩ := c.def_ 30 (d := dA_node_triple); ⟨_, fd, F, He.glo_ok X G (c.fact 68 (f := fFa (.glo "node_triple")))⟩⟩
  have D_end_from : GD K "end_from" "end_from" s_end_from (fun f => mg "end_from" = some (.ref f)) := ⟨let ⟨fd, F⟩ := c.def_ 31 (d := dA_end_from); ⟨_, fd, F, He.glo_ok X G (c.fact 69 (f := fFa (.glo "end_from")))⟩⟩
  have D_bytes_of : GD K "bytes_of" "bytes_of" s_bytes_of (fun f => mg "bytes_of" = some (.ref f)) := ⟨let ⟨fd, F⟩ := c.def_ 32 (d := dA_bytes_of); ⟨_, fd, F, He.glo_ok X G (c.fact 70 (f := fFa (.glo "bytes_of")))⟩⟩
  have D_padding : GD K "padding" "padding" s_padding (fun f => mg "padding" = some (.ref f)) := ⟨let ⟨fd, F⟩ := c.def_ 33 (d := dA_padding); ⟨_, fd, F, He.glo_ok X G (c.fact 71 (f := fFa (.glo "padding")))⟩⟩
  have D_l_grab : GD K "_law_grab" "_law_grab" s_l_grab (fun f => mg "_law_grab" = some (.ref f)) := ⟨let ⟨fd, F⟩ := c.def_ 34 (d := dA_l_grab); ⟨_, fd, F, He.glo_ok X G (c.fact 72 (f := fFa (.glo "_law_grab")))⟩⟩
  have D_padding_range : GD K "padding_range" "padding_range" s_padding_range (fun f => mg "padding_range" = some (.ref f)) := ⟨let ⟨fd, F⟩ := c.def_ 35 (d := dA_padding_range); ⟨_, fd, F, He.glo_ok X G (c.fact 73 (f := fFa (.glo "padding_range")))⟩⟩
  have D_require_number : GD K "require_number" "require_number" s_require_number (fun f => mg "require_number" = some (.ref f)) := ⟨let ⟨fd, F⟩ := c.def_ 36 (d := dA_require_number); ⟨_, fd, F, He.glo_ok X G (c.fact 74 (f := fFa (.glo "require_number")))⟩⟩
  have D_starts_with_padding : GD K "starts_with_padding" "starts_with_padding" s_starts_with_padding (fun f => mg "starts_with_padding" = some (.ref f)) := ⟨let ⟨fd, F⟩ := c.def_ 37 (d := dA_starts_with_padding); ⟨_, fd, F, He.glo_ok X G (c.fact 75 (f := fFa (.glo "starts_with_padding")))⟩⟩
  have D_l_in_arc : GD K "_law_in_arc" "_law_in_arc" s_l_in_arc (fun f => mg "_law_in_arc" = some (.ref f)) := ⟨let ⟨fd, F⟩ := c.def_ 38 (d := dA_l_in_arc); ⟨_, fd, F, He.glo_ok X G (c.fact 76 (f := fFa (.glo "_law_in_arc")))⟩⟩
  have D_l_right : GD K "_law_right" "_law_right" s_l_right (fun f => mg "_law_right" = some (.ref f)) := ⟨let ⟨fd, F⟩ := c.def_ 39 (d := dA_l_right); ⟨_, fd, F, He.glo_ok X G (c.fact 77 (f := fFa (.glo "_law_right")))⟩⟩
  have D_l_power : GD K "_law_power" "_law_power" s_l_power (fun f => mg "_law_power" = some (.ref f)) := ⟨let ⟨fd, F⟩ := c.def_ 40 (d := dA_l_power); ⟨_, fd, F, He.glo_ok X G (c.fact 78 (f := fFa (.glo "_law_power")))⟩⟩
  have D_l_count : GD K "_law_count" "_law_count" s_l_count (fun f => mg "_law_count" = some (.ref f)) := ⟨let ⟨fd, F⟩ := c.def_ 41 (d := dA_l_count); ⟨_, fd, F, He.glo_ok X G (c.fact 79 (f := fFa (.glo "_law_count")))⟩⟩
  have D_l_nodes : GD K "_law_nodes" "_law_nodes" s_l_nodes (fun f => mg "_law_nodes" = some (.ref f)) := ⟨let ⟨fd, F⟩ := c.def_ 42 (d := dA_l_nodes); ⟨_, fd, F, He.glo_ok X G (c.fact 80 (f := fFa (.glo "_law_nodes")))⟩⟩
  have D_l_names : GD K "_law_names" "_law_names" s_l_names (fun f => mg "_law_names" = some (.ref f)) := ⟨let ⟨fd, F⟩ := c.def_ 43 (d := dA_l_names); ⟨_, fd, F, He.glo_ok X G (c.fact 81 (f := fFa (.glo "_law_names")))⟩⟩
  have D_l_wide : GD K "_law_wide" "_law_wide" s_l_wide (fun f => mg "_law_wide" = some (.ref f)) := ⟨let ⟨fd, F⟩ := c.def_ 44 (d := dA_l_wide); ⟨_, fd, F, He.glo_ok X G (c.fact 82 (f := fFa (.glo "_law_wide")))⟩⟩
  obtain ⟨fd0, F0⟩ := c.def_ 45 (d := dA_law)
  have e := hfa.symm.trans (He.glo_ok X G (c.fact 83 (f := fFa (.glo "law"))))
  cases e
  have b := FunD.bindsA (ps := ["_law_script"]) F0 fun _ _ _ _ _ _ us hl => match us, hl with | [_], _ => rfl
  refine ⟨fd0, fun s v => b s [v] rfl, fun base hb hg => ?_⟩
  exact cx0_of (all_ok (Pg := P) (w := w) (base := base) T F0 D_l_silo D_words_of D_is_decimal D_is_int D_in_range D_is_power D_is_align_word D_is_letters D_is_single D_first_wrong D_nodes_from D_nodes_in D_Layout_init D_l_words D_Layout_alignment D_l_ceil D_l_walk D_l_rows D_l_gaps D_require_layout D_Layout_is_plain D_require_plain D_require_start D_nodes_of D_ceil_to D_end_by D_power_of D_reduced D_joined D_triple_of D_node_triple D_end_from D_bytes_of D_padding D_l_grab D_padding_range D_require_number D_starts_with_padding D_l_in_arc D_l_right D_l_power D_l_count D_l_nodes D_l_names D_l_wide)
end L
open PySem PySem.W PySem.Calls PyProof.Rows
set_option maxHeartbeats 0 in
theorem PySem.Challenge.cw_alignmaps_k17_padding_of_short_layouts_holds : PySem.Challenge.rw_alignmaps_k17_padding_of_short_layouts.Holds := by
  w_on; o_law
  refine HandSHeadRun.head_any (r := OpenLaw.row PySem.Challenge.rw_alignmaps_k17_padding_of_short_layouts) (q := view (OpenLaw.row PySem.Challenge.rw_alignmaps_k17_padding_of_short_layouts).prog [71]) (H := L.hk) (ob := L.ob) (M := 7000) (loose := L.names) (d := HandSHeadRun.topDef (OpenLaw.row PySem.Challenge.rw_alignmaps_k17_padding_of_short_layouts).prog 71) (kwd := []) L.ob_eq
    (by kernel_rfl) (fun s => by kernel_rfl) L.run (by kernel_rfl) (by kernel_rfl) (by kernel_rfl) (by rfl) (by first | assumption | decide +kernel) (by decide +kernel) ⟨rfl, rfl, rfl, rfl, rfl, by decide +kernel⟩ ?hw ?hc
  case hw => w_witness2
  case hc =>
    refine B.walkG (l := PySem.Challenge.rw_alignmaps_k17_padding_of_short_layouts) (n := 63) (k := 56) (x := "_law_script") (CX := L2.CX0) rfl (by decide) (by kernel_rfl) ⟨⟨rfl, by decide, by decide⟩, rfl⟩ ?F (fun _ _ _ _ z => z)
    intro w mg fa h Y G hmg0
    obtain ⟨K, KX, c⟩ := Y
    have hmg : mg ("law" : PySem.Str) = some (.ref fa) := by
      have e : (HandSHeadRun.topDef (OpenLaw.row PySem.Challenge.rw_alignmaps_k17_padding_of_short_layouts).prog 71).name = ("law" : PySem.Str) := by kernel_rfl
      rw [← e]
      exact hmg0
    obtain ⟨fd, hb, hF⟩ := L.facts (P := (PySem.Challenge.rw_alignmaps_k17_padding_of_short_layouts).prog) (w := w) KX G hmg c
    exact ⟨K, fd, (fun vs H Q _ => B.spB K (L.nm K) 1 L.F_law vs H Q L2.E0), KX, hb, fun H a ns hl ho hS => B.sp_law L.law_true H a ns hl ho hS, hF⟩
