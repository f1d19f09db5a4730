import PyProof.Rows.All
import Wide.All
import OpenK.AllK
import Wide.FinOn
import KE.KStateDown
import PyProof.EqAt
import PyProof.EqKinds
import PyProof.TupleCall
import HandS.Base
import HandS.Call
import HandS.List
import HandS.Comp
import HandS.Ends
import HandS.Dict
import HandS.Iter
import HandS.Text
import HandS.More
import HandS.Words
import HandS.WordsList
import HandS.WordsDict
import HandS.Exc
import HandS.Star
import HandS.Conv
import HandS.IsInst
import HandS.Zip
import HandS.Property
import HandS.Style
import HandS.FStr
import HandS.Defaults
import HandS.HeadHook1
import HandS.HeadHook2
import KE.GoesZip
import KE.GoesMore
import KE.GoesEnum
import PyProof.EnumMake
import HandS.DictComp
import HandS.SetKeys
import KE.KDictDisplayH
import HandS.SetFor
import HandS.SortInts
import KE.SortData
import HandS.DictTup
import KE.KDictWalk
import HandS.Nested
import HandS.MethStar
import KE.KSuper
import HandS.Strs
import HandS.Replace
import HandS.Lambda
import KE.SortKeyHeap
import HandS.MakeKwOnly
import PyProof.Rows.RegStrFacts
import HandS.EndTab
import HandS.HeadWalk
import HandS.Head2
import PySem.Challenge.RW_onlyahead_k39_whole_answers_for_knotted
set_option Elab.async false
set_option linter.all false
set_option maxRecDepth 100000
namespace Kn
open PySem PySem.Spec PyProof.Rows L2
abbrev Fr := PySem.W.Frag
def top (i : Nat) : Stmt := PySem.Challenge.pw_onlyahead_k39_whole_answers_for_knotted.main.body.getD i (.Pass ⟨0, 0, 0, 0⟩)
abbrev s_still : Stmt := top 44
abbrev s_product : Stmt := top 45
abbrev s_undone : Stmt := top 46
abbrev s_exchange : Stmt := top 47
abbrev s_generated : Stmt := top 48
abbrev s_few_makers : Stmt := top 50
abbrev s_exchanges_of : Stmt := top 49
abbrev s_series_of : Stmt := top 51
abbrev s_rings_in : Stmt := top 54
abbrev s_is_number : Stmt := top 15
abbrev s_is_prime : Stmt := top 16
abbrev s_ascends : Stmt := top 17
abbrev s_is_alphabet : Stmt := top 18
abbrev s_is_word : Stmt := top 19
abbrev s_need_alphabet : Stmt := top 20
abbrev s_need_word : Stmt := top 21
abbrev s_copied : Stmt := top 14
abbrev s_Machine_step : Stmt := inClass (top 101) 6
abbrev s_Machine_need_state : Stmt := inClass (top 101) 7
abbrev s_Machine_led : Stmt := inClass (top 101) 8
abbrev s_Machine_words_to_states : Stmt := inClass (top 101) 10
abbrev s_Machine_reachable : Stmt := inClass (top 101) 11
abbrev s_Machine_alphabet : Stmt := inClass (top 101) 2
abbrev s_first_words : Stmt := top 96
abbrev s_is_row : Stmt := top 99
abbrev s_Machine___init__ : Stmt := inClass (top 101) 1
abbrev s_small_reach : Stmt := top 57
abbrev s_is_set : Stmt := top 58
abbrev s_led_set : Stmt := top 59
abbrev s_inner : Stmt := top 63
abbrev s_one_to_one : Stmt := top 61
abbrev s_turn_words : Stmt := top 62
abbrev s_all_sets : Stmt := top 64
abbrev s_Answer___init__ : Stmt := inClass (top 67) 0
abbrev s_Ring___init__ : Stmt := inClass (top 69) 0
abbrev s_Knot___init__ : Stmt := inClass (top 70) 0
abbrev s_need_primes : Stmt := top 104
abbrev s_ring_of : Stmt := top 105
abbrev s_knot_of : Stmt := top 106
abbrev s_against : Stmt := top 107
abbrev s_build : Stmt := top 108
abbrev s_are_words : Stmt := top 71
abbrev s_are_indexes : Stmt := top 72
abbrev s_along : Stmt := top 73
abbrev s_product_of : Stmt := top 74
abbrev s_Knot_holds : Stmt := inClass (top 70) 1
abbrev s_Ring_holds : Stmt := inClass (top 69) 1
abbrev s_Knot_told : Stmt := inClass (top 70) 2
abbrev s_Answer_is_built : Stmt := inClass (top 67) 1
abbrev s_Answer___repr__ : Stmt := inClass (top 67) 4
abbrev s__law_product : Stmt := top 116
abbrev s__law_exchanged : Stmt := top 118
abbrev s__law_along : Stmt := top 126
abbrev s__law_is_index : Stmt := top 121
abbrev s__law_undone : Stmt := top 117
abbrev s__law_product_told : Stmt := top 127
abbrev s__law_go : Stmt := top 114
abbrev s__law_is_over : Stmt := top 123
abbrev s__law_places : Stmt := top 119
abbrev s__law_reach : Stmt := top 115
abbrev s__law_is_prime : Stmt := top 120
abbrev s__law_is_states : Stmt := top 122
abbrev s__law_ring_right : Stmt := top 124
abbrev s__law_knot_right : Stmt := top 125
abbrev s__law_bag : Stmt := top 110
abbrev s__law_pull : Stmt := top 111
abbrev s__law_of : Stmt := top 112
abbrev s__law_mixed : Stmt := top 128
abbrev s__law_knotted : Stmt := top 129
abbrev s__law_renamed : Stmt := top 130
abbrev s__law_primes : Stmt := top 131
abbrev s__law_same : Stmt := top 113
abbrev s__law_build : Stmt := top 132
abbrev s__law_holds : Stmt := top 133
abbrev s__law_ring_stands : Stmt := top 134
abbrev s__law_knot_stands : Stmt := top 135
abbrev s_law : Stmt := top 136
end Kn
/-! N1 -/
set_option maxHeartbeats 2000000
namespace Hx
open PySem PySem.Spec PyProof.Rows L2 Kn
/-! ### parts of the heap, laid out -/
def frL {α : Type} : List Addr → (List Addr → α) → α
  | [], k => k []
  | a :: r, k => HandSHeadRun.frNat a fun a => frL r fun r => k (a :: r)
def frK {α : Type} (g : Addr → Option Obj) : List Addr → (Fr → α) → α
  | [], k => k []
  | a :: r, k => match g a with
    | some ⟨c, d, dt, sl⟩ => frK g r fun K => k ((a, ⟨c, d, dt, sl⟩) :: K)
    | none => frK g r k
/-! ### which addresses -/
def refsF (o : Obj) : List Addr := match o.data with
  | .func fd => He.refV fd.code ++ He.refV fd.defaults ++ He.refV fd.kwdefaults ++ fd.closure.map (·.2)
  | .cls cd => cd.ns :: cd.mro.flatMap He.refV
  | .fields vs => vs.toList.flatMap He.refV
  | _ => []
def refsN (o : Obj) : List Addr := match o.data with
  | .dict es _ => es.toList.flatMap fun e => He.refV e.val
  | _ => []
def refsC (o : Obj) : List Addr := match o.data with
  | .func fd => He.refV fd.code
  | _ => []
def stepG (g : Addr → Option Obj) (f : Obj → List Addr) (as : List Addr) : List Addr := as.flatMap fun a => match g a with
  | some o => f o
  | none => []
/-- the table of all_sets, its code object -/
def cOf (K : Fr) : Addr := match K.lookup (He.ga K "all_sets") with
  | some ⟨_, _, .func fd, _⟩ => (match fd.code with
    | .ref c => c
    | _ => 0)
  | _ => 0
def pOf (K : Fr) : Addr := match K.lookup (cOf K) with
  | some ⟨_, _, .fields vs, _⟩ => (match vs[11]? with
    | some (Value.ref P) => P
    | _ => 0)
  | _ => 0
def withAs {α : Type} (g : Addr → Option Obj) (fns cls : List Str) (k : List Addr → α) : α :=
  frK g [mainGlobals] fun K1 =>
  frL (fns.map (He.ga K1)) fun f1 =>
  frL (cls.map (He.ga K1)) fun c1 =>
  frL (stepG g refsF f1) fun f2 =>
  frL (stepG g refsF c1) fun c2 =>
  frL (stepG g refsN c2) fun c3 =>
  frL (stepG g refsF c3) fun c4 =>
  frL (stepG g refsC c4) fun c5 =>
  frL (stepG g (fun o => match o.data with
    | .fields vs => (match vs[11]? with
      | some (Value.ref P) => [P]
      | _ => [])
    | _ => []) (stepG g refsC [He.ga K1 "all_sets"])) fun tb =>
  k (mainGlobals :: cStatics :: (f1 ++ (c1 ++ (f2 ++ (c2 ++ (c3 ++ (c4 ++ (c5 ++ tb))))))))
/-! ### defs -/
/-- one def: where it stands, its name, qualified name, parameters, body, scope, defaults, keyword-only defaults, the names of its closure -/
structure DX where
  at_ : Fr → Addr
  name : Str
  qual : Str
  params : Arguments
  body : List Stmt
  scope : Scope
  dfl : List He.Dv := []
  kwd : List (Str × He.Dv) := []
  clo : List Str := []
abbrev FW : Type := Option (Str × Str × Arguments × FuncBody × Scope × Addr × List Str × Addr)
def fW (K : Fr) (d : DX) : FW := match K.lookup (d.at_ K) with
  | some ⟨_, _, .func fd, _⟩ => some (fd.name, fd.qualname, fd.params, fd.body, fd.scope, fd.globals, fd.closure.map (·.1), fd.builtins)
  | _ => none
def DX.val (d : DX) : FW := some (d.name, d.qual, d.params, .stmts d.body, d.scope, mainGlobals, d.clo, builtinsNs)
def DX.ok (K : Fr) (d : DX) : Bool := PySem.W.keepIn K (.ref (d.at_ K)) && (match K.lookup (d.at_ K) with
  | some ⟨_, _, .func fd, _⟩ => PySem.W.codeIn K fd.code d.qual && (He.dflB K fd.defaults (d.dfl.map (He.Dv.v K)) && He.kwdB K fd.kwdefaults (d.kwd.map fun q => (q.1, q.2.v K)))
  | _ => false)
/-! ### super().__init__ of a plain class -/
def superB (K : Fr) (file : Str) (f C fB : Addr) : Bool := (match K.lookup f with
  | some ⟨_, _, .func fd, _⟩ => (match fd.code with
    | .ref cda => (match K.lookup cda with
      | some ⟨_, _, .fields vs, _⟩ => (match vs[2]? with
        | some (Value.str x _) => (file == x)
        | _ => false)
      | _ => false)
    | _ => false) && (match fd.closure with
    | [(x, cc)] => decide (x = Str.ofString "__class__") && (match K.lookup cc with
      | some ⟨_, _, .cell (some (.ref c)), _⟩ => decide (c = C)
      | _ => false)
    | _ => false)
  | _ => false) && ((match PySem.W.clsIn K C with
    | some cd => decide (PySem.W.alongIn K "__init__" ((cd.mro.dropWhile (· != .ref C)).drop 1) = some (some (.ref fB)))
    | none => false) && (decide (PySem.W.mroIn K C (.ref C) = some true) && (decide (PySem.W.nsIn K cStatics "thirdparty.any" = some none) && (decide (PySem.W.typeIn K (.ref fB) = some (.type "function")) && PySem.W.fnIn K fB))))
/-! ### the table -/
def tabB (K0 : Fr) (c p : Addr) : Bool := (match K0.lookup c with
  | some ⟨t, _, .fields vs, _⟩ => (match t with
    | .type x => decide (x = "code")
    | _ => false) && ((match vs[11]? with
    | some (Value.ref P) => decide (P = p)
    | _ => false) && ((match vs.getD 11 .none with
    | .ref P => decide (P = p)
    | _ => false) && ((match vs.getD 18 .none with
    | .str _ _ => true
    | _ => false) && ((match vs.getD 7 .none with
    | .int _ _ => true
    | _ => false) && ((match vs.getD 9 .none with
    | .bool _ => true
    | _ => false) && (match vs.getD 10 .none with
    | .int _ _ => true
    | _ => false))))))
  | _ => false) && (decide (c ≠ p) && (match K0.lookup p with
  | some ⟨.none, none, .fields vs, sl⟩ => decide (vs.size = 0) && decide (sl.size = 0)
  | _ => false))
/-! ### the Hook -/
/-- the part without the table -/
def dropP (p : Addr) (K : Fr) : Fr := K.filter fun q => !(q.1 == p)
structure Want where
  fns : List Str
  cls : List Str
  fa : List He.Fa
  ex : List (Fr → Bool)
  ds : List DX
abbrev AlX : Type := Bool × List FW
/-- what is looked at: K0 with the table, K without -/
def obsK (W : Want) (K0 K : Fr) (c p : Addr) : AlX := ((W.fa.all fun f => f.ok K) && ((W.ex.all fun f => f K) && ((W.ds.all fun d => d.ok K) && (tabB K0 c p && decide (cOf K = c)))), W.ds.map fun d => fW K d)
def valX (W : Want) : AlX := (true, W.ds.map DX.val)
def frN {α : Type} (n : Nat) (k : Nat → α) : α := HandSHeadRun.frNat n k
/-- a part is laid out -/
def frF {α : Type} : Fr → (Fr → α) → α
  | [], k => k []
  | (a, o) :: r, k => frF r fun r => k ((a, o) :: r)
def obsX (W : Want) (g : Addr → Option Obj) : AlX := withAs g W.fns W.cls fun as => frK g as fun K0 => HandSHeadRun.frNat (cOf K0) fun c => HandSHeadRun.frNat (pOf K0) fun p => frF (dropP p K0) fun K => obsK W K0 K c p
end Hx
/-! N2 -/
set_option maxHeartbeats 0
namespace Hx
open PySem PySem.Spec PyProof.Rows L2 Kn
abbrev R : PySem.W.OpenRow := PySem.W.OpenLaw.row PySem.Challenge.rw_onlyahead_k39_whole_answers_for_knotted
abbrev PR : Program := PySem.Challenge.pw_onlyahead_k39_whole_answers_for_knotted
/-- a property's object, its getter -/
def pAt (K : Fr) (C f : Str) : Addr := match PySem.W.findIn K (.ref (He.ga K C)) f with
  | some (some (.ref p)) => p
  | _ => 0
def gAt (K : Fr) (C f : Str) : Addr := match PySem.W.recIn K (pAt K C f) "property" with
  | some (.ref g :: _) => g
  | _ => 0
def propB (C f : Str) (K : Fr) : Bool := decide (PySem.W.findIn K (.ref (He.ga K C)) f = some (some (.ref (pAt K C f)))) && (decide (PySem.W.specialIn K (.ref (pAt K C f)) "__get__" = some (some (.builtin "property.__get__"))) && (decide (PySem.W.takesIn K (.ref (pAt K C f)) = some true) && (match PySem.W.recIn K (pAt K C f) "property" with
  | some (.ref g :: _) => true
  | _ => false)))
def iclB (C : Str) (K : Fr) : Bool := decide (PySem.W.findIn K (.ref (He.ga K C)) "__class__" = some (some (.builtin "object.__class__"))) && (decide (PySem.W.specialIn K (.builtin "object.__class__") "__get__" = some (some (.builtin "getset_descriptor.__get__"))) && (decide (PySem.W.takesIn K (.builtin "object.__class__") = some true) && decide (PySem.W.mroIn K (He.ga K C) (.type "object") = some true)))
def kitF (A B : Str) (b : Bool) (K : Fr) : Bool := decide (PySem.W.kitOne K (.ref (He.ga K A)) (.ref (He.ga K B)) = some b)
def tyF (C m : Str) (K : Fr) : Bool := decide (PySem.W.typeIn K (.ref (He.ma K (He.ga K C) m)) = some (.type "function"))
def supF (C : Str) (K : Fr) : Bool := superB K PR.main.file (He.ma K (He.ga K C) "__init__") (He.ga K C) (He.ma K (He.ga K "Answer") "__init__")
def fns0 : List Str := ["still", "product", "undone", "exchange", "generated", "exchanges_of", "few_makers", "series_of", "rings_in", "small_reach", "is_set", "led_set", "one_to_one", "turn_words", "inner", "all_sets", "first_words", "is_row", "is_number", "is_prime"]
def fns1 : List Str := ["ascends", "is_alphabet", "is_word", "need_alphabet", "need_word", "need_primes", "ring_of", "knot_of", "against", "build", "are_words", "are_indexes", "along", "product_of", "copied", "_law_bag", "_law_pull", "_law_of", "_law_same", "_law_go"]
def fns2 : List Str := ["_law_reach", "_law_product", "_law_undone", "_law_exchanged", "_law_places", "_law_is_prime", "_law_is_index", "_law_is_states", "_law_is_over", "_law_ring_right", "_law_knot_right", "_law_along", "_law_product_told", "_law_mixed", "_law_knotted", "_law_renamed", "_law_primes", "_law_build", "_law_holds", "_law_ring_stands"]
def fns3 : List Str := ["_law_knot_stands", "law"]
def fns : List Str := fns0 ++ fns1 ++ fns2 ++ fns3
def cls : List Str := ["Machine", "Answer", "Ring", "Knot"]
def fas0 : List He.Fa := [.free "len", .free "tuple", .free "list", .free "range", .free "sorted", .free "set", .free "enumerate", .free "zip", .free "isinstance", .free "all", .free "int", .free "str", .free "bool", .free "dict", .free "abs", .free "repr", .free "super", .str "SMALL" "abcdefghijklmnopqrstuvwxyz", .int "MOST_LETTERS" 4, .int "MOST_BUILT" 6]
def fas1 : List He.Fa := [.int "MOST_STATES" 1000, .int "MOST_PRIME_build" 97, .glo "still", .keep "still", .glo "product", .keep "product", .glo "undone", .keep "undone", .glo "exchange", .keep "exchange", .glo "generated", .keep "generated", .glo "exchanges_of", .keep "exchanges_of", .glo "few_makers", .keep "few_makers", .glo "series_of", .keep "series_of", .glo "rings_in", .keep "rings_in"]
def fas2 : List He.Fa := [.glo "small_reach", .keep "small_reach", .glo "is_set", .keep "is_set", .glo "led_set", .keep "led_set", .glo "one_to_one", .keep "one_to_one", .glo "turn_words", .keep "turn_words", .glo "inner", .keep "inner", .glo "all_sets", .keep "all_sets", .glo "first_words", .keep "first_words", .glo "is_row", .keep "is_row", .glo "is_number", .keep "is_number"]
def fas3 : List He.Fa := [.glo "is_prime", .keep "is_prime", .glo "ascends", .keep "ascends", .glo "is_alphabet", .keep "is_alphabet", .glo "is_word", .keep "is_word", .glo "need_alphabet", .keep "need_alphabet", .glo "need_word", .keep "need_word", .glo "need_primes", .keep "need_primes", .glo "ring_of", .keep "ring_of", .glo "knot_of", .keep "knot_of", .glo "against", .keep "against"]
def fas4 : List He.Fa := [.glo "build", .keep "build", .glo "are_words", .keep "are_words", .glo "are_indexes", .keep "are_indexes", .glo "along", .keep "along", .glo "product_of", .keep "product_of", .glo "copied", .keep "copied", .glo "_law_bag", .keep "_law_bag", .glo "_law_pull", .keep "_law_pull", .glo "_law_of", .keep "_law_of", .glo "_law_same", .keep "_law_same"]
def fas5 : List He.Fa := [.glo "_law_go", .keep "_law_go", .glo "_law_reach", .keep "_law_reach", .glo "_law_product", .keep "_law_product", .glo "_law_undone", .keep "_law_undone", .glo "_law_exchanged", .keep "_law_exchanged", .glo "_law_places", .keep "_law_places", .glo "_law_is_prime", .keep "_law_is_prime", .glo "_law_is_index", .keep "_law_is_index", .glo "_law_is_states", .keep "_law_is_states", .glo "_law_is_over", .keep "_law_is_over"]
def fas6 : List He.Fa := [.glo "_law_ring_right", .keep "_law_ring_right", .glo "_law_knot_right", .keep "_law_knot_right", .glo "_law_along", .keep "_law_along", .glo "_law_product_told", .keep "_law_product_told", .glo "_law_mixed", .keep "_law_mixed", .glo "_law_knotted", .keep "_law_knotted", .glo "_law_renamed", .keep "_law_renamed", .glo "_law_primes", .keep "_law_primes", .glo "_law_build", .keep "_law_build", .glo "_law_holds", .keep "_law_holds"]
def fas7 : List He.Fa := [.glo "_law_ring_stands", .keep "_law_ring_stands", .glo "_law_knot_stands", .keep "_law_knot_stands", .glo "Machine", .glo "Answer", .glo "Ring", .glo "Knot", .glo "law", .cls "Machine", .cls "Answer", .cls "Ring", .cls "Knot", .noat "Machine" "own_alphabet", .noat "Machine" "own_rows", .noat "Machine" "own_start", .noat "Ring" "machine", .noat "Ring" "word", .noat "Ring" "states", .noat "Knot" "machine"]
def fas8 : List He.Fa := [.noat "Knot" "states", .noat "Knot" "words", .noat "Knot" "products", .meth "Machine" "step", .meth "Machine" "need_state", .meth "Machine" "led", .meth "Machine" "words_to_states", .meth "Machine" "reachable", .meth "Knot" "told", .meth "Knot" "holds", .meth "Knot" "__repr__", .meth "Ring" "holds", .mkr "Machine", .mkr "Ring", .mkr "Knot"]
def fas : List He.Fa := fas0 ++ fas1 ++ fas2 ++ fas3 ++ fas4 ++ fas5 ++ fas6 ++ fas7 ++ fas8
def exs : List (Fr → Bool) := [propB "Machine" "alphabet", propB "Knot" "is_built", iclB "Ring", iclB "Knot", kitF "Knot" "Knot" true, kitF "Ring" "Ring" true, kitF "Ring" "Knot" false, tyF "Knot" "__repr__", supF "Ring", supF "Knot"]
def d0 : DX := ⟨fun K => He.ga K "still", "still", "still", defArgs s_still, defBody s_still, defScope s_still, [], [], []⟩
def d1 : DX := ⟨fun K => He.ga K "product", "product", "product", defArgs s_product, defBody s_product, defScope s_product, [], [], []⟩
def d2 : DX := ⟨fun K => He.ga K "undone", "undone", "undone", defArgs s_undone, defBody s_undone, defScope s_undone, [], [], []⟩
def d3 : DX := ⟨fun K => He.ga K "exchange", "exchange", "exchange", defArgs s_exchange, defBody s_exchange, defScope s_exchange, [], [], []⟩
def d4 : DX := ⟨fun K => He.ga K "generated", "generated", "generated", defArgs s_generated, defBody s_generated, defScope s_generated, [], [], []⟩
def d5 : DX := ⟨fun K => He.ga K "exchanges_of", "exchanges_of", "exchanges_of", defArgs s_exchanges_of, defBody s_exchanges_of, defScope s_exchanges_of, [], [], []⟩
def d6 : DX := ⟨fun K => He.ga K "few_makers", "few_makers", "few_makers", defArgs s_few_makers, defBody s_few_makers, defScope s_few_makers, [], [], []⟩
def d7 : DX := ⟨fun K => He.ga K "series_of", "series_of", "series_of", defArgs s_series_of, defBody s_series_of, defScope s_series_of, [], [], []⟩
def d8 : DX := ⟨fun K => He.ga K "rings_in", "rings_in", "rings_in", defArgs s_rings_in, defBody s_rings_in, defScope s_rings_in, [], [], []⟩
def d9 : DX := ⟨fun K => He.ga K "small_reach", "small_reach", "small_reach", defArgs s_small_reach, defBody s_small_reach, defScope s_small_reach, [], [], []⟩
def d10 : DX := ⟨fun K => He.ga K "is_set", "is_set", "is_set", defArgs s_is_set, defBody s_is_set, defScope s_is_set, [], [], []⟩
def d11 : DX := ⟨fun K => He.ga K "led_set", "led_set", "led_set", defArgs s_led_set, defBody s_led_set, defScope s_led_set, [], [], []⟩
def d12 : DX := ⟨fun K => He.ga K "one_to_one", "one_to_one", "one_to_one", defArgs s_one_to_one, defBody s_one_to_one, defScope s_one_to_one, [], [], []⟩
def d13 : DX := ⟨fun K => He.ga K "turn_words", "turn_words", "turn_words", defArgs s_turn_words, defBody s_turn_words, defScope s_turn_words, [], [], []⟩
def d14 : DX := ⟨fun K => He.ga K "inner", "inner", "inner", defArgs s_inner, defBody s_inner, defScope s_inner, [], [], []⟩
def d15 : DX := ⟨fun K => He.ga K "all_sets", "all_sets", "all_sets", defArgs s_all_sets, defBody s_all_sets, defScope s_all_sets, [], [], []⟩
def d16 : DX := ⟨fun K => He.ga K "first_words", "first_words", "first_words", defArgs s_first_words, defBody s_first_words, defScope s_first_words, [], [], []⟩
def d17 : DX := ⟨fun K => He.ga K "is_row", "is_row", "is_row", defArgs s_is_row, defBody s_is_row, defScope s_is_row, [], [], []⟩
def d18 : DX := ⟨fun K => He.ga K "is_number", "is_number", "is_number", defArgs s_is_number, defBody s_is_number, defScope s_is_number, [.non], [], []⟩
def d19 : DX := ⟨fun K => He.ga K "is_prime", "is_prime", "is_prime", defArgs s_is_prime, defBody s_is_prime, defScope s_is_prime, [], [], []⟩
def d20 : DX := ⟨fun K => He.ga K "ascends", "ascends", "ascends", defArgs s_ascends, defBody s_ascends, defScope s_ascends, [], [], []⟩
def d21 : DX := ⟨fun K => He.ga K "is_alphabet", "is_alphabet", "is_alphabet", defArgs s_is_alphabet, defBody s_is_alphabet, defScope s_is_alphabet, [], [], []⟩
def d22 : DX := ⟨fun K => He.ga K "is_word", "is_word", "is_word", defArgs s_is_word, defBody s_is_word, defScope s_is_word, [], [], []⟩
def d23 : DX := ⟨fun K => He.ga K "need_alphabet", "need_alphabet", "need_alphabet", defArgs s_need_alphabet, defBody s_need_alphabet, defScope s_need_alphabet, [], [], []⟩
def d24 : DX := ⟨fun K => He.ga K "need_word", "need_word", "need_word", defArgs s_need_word, defBody s_need_word, defScope s_need_word, [], [], []⟩
def d25 : DX := ⟨fun K => He.ga K "need_primes", "need_primes", "need_primes", defArgs s_need_primes, defBody s_need_primes, defScope s_need_primes, [], [], []⟩
def d26 : DX := ⟨fun K => He.ga K "ring_of", "ring_of", "ring_of", defArgs s_ring_of, defBody s_ring_of, defScope s_ring_of, [], [], []⟩
def d27 : DX := ⟨fun K => He.ga K "knot_of", "knot_of", "knot_of", defArgs s_knot_of, defBody s_knot_of, defScope s_knot_of, [], [], []⟩
def d28 : DX := ⟨fun K => He.ga K "against", "against", "against", defArgs s_against, defBody s_against, defScope s_against, [], [], []⟩
def d29 : DX := ⟨fun K => He.ga K "build", "build", "build", defArgs s_build, defBody s_build, defScope s_build, [], [], []⟩
def d30 : DX := ⟨fun K => He.ga K "are_words", "are_words", "are_words", defArgs s_are_words, defBody s_are_words, defScope s_are_words, [], [], []⟩
def d31 : DX := ⟨fun K => He.ga K "are_indexes", "are_indexes", "are_indexes", defArgs s_are_indexes, defBody s_are_indexes, defScope s_are_indexes, [], [], []⟩
def d32 : DX := ⟨fun K => He.ga K "along", "along", "along", defArgs s_along, defBody s_along, defScope s_along, [], [], []⟩
def d33 : DX := ⟨fun K => He.ga K "product_of", "product_of", "product_of", defArgs s_product_of, defBody s_product_of, defScope s_product_of, [], [], []⟩
def d34 : DX := ⟨fun K => He.ga K "copied", "copied", "copied", defArgs s_copied, defBody s_copied, defScope s_copied, [], [], []⟩
def d35 : DX := ⟨fun K => He.ga K "_law_bag", "_law_bag", "_law_bag", defArgs s__law_bag, defBody s__law_bag, defScope s__law_bag, [], [], []⟩
def d36 : DX := ⟨fun K => He.ga K "_law_pull", "_law_pull", "_law_pull", defArgs s__law_pull, defBody s__law_pull, defScope s__law_pull, [], [], []⟩
def d37 : DX := ⟨fun K => He.ga K "_law_of", "_law_of", "_law_of", defArgs s__law_of, defBody s__law_of, defScope s__law_of, [], [], []⟩
def d38 : DX := ⟨fun K => He.ga K "_law_same", "_law_same", "_law_same", defArgs s__law_same, defBody s__law_same, defScope s__law_same, [], [], []⟩
def d39 : DX := ⟨fun K => He.ga K "_law_go", "_law_go", "_law_go", defArgs s__law_go, defBody s__law_go, defScope s__law_go, [], [], []⟩
def d40 : DX := ⟨fun K => He.ga K "_law_reach", "_law_reach", "_law_reach", defArgs s__law_reach, defBody s__law_reach, defScope s__law_reach, [], [], []⟩
def d41 : DX := ⟨fun K => He.ga K "_law_product", "_law_product", "_law_product", defArgs s__law_product, defBody s__law_product, defScope s__law_product, [], [], []⟩
def d42 : DX := ⟨fun K => He.ga K "_law_undone", "_law_undone", "_law_undone", defArgs s__law_undone, defBody s__law_undone, defScope s__law_undone, [], [], []⟩
def d43 : DX := ⟨fun K => He.ga K "_law_exchanged", "_law_exchanged", "_law_exchanged", defArgs s__law_exchanged, defBody s__law_exchanged, defScope s__law_exchanged, [], [], []⟩
def d44 : DX := ⟨fun K => He.ga K "_law_places", "_law_places", "_law_places", defArgs s__law_places, defBody s__law_places, defScope s__law_places, [], [], []⟩
def d45 : DX := ⟨fun K => He.ga K "_law_is_prime", "_law_is_prime", "_law_is_prime", defArgs s__law_is_prime, defBody s__law_is_prime, defScope s__law_is_prime, [], [], []⟩
def d46 : DX := ⟨fun K => He.ga K "_law_is_index", "_law_is_index", "_law_is_index", defArgs s__law_is_index, defBody s__law_is_index, defScope s__law_is_index, [], [], []⟩
def d47 : DX := ⟨fun K => He.ga K "_law_is_states", "_law_is_states", "_law_is_states", defArgs s__law_is_states, defBody s__law_is_states, defScope s__law_is_states, [], [], []⟩
def d48 : DX := ⟨fun K => He.ga K "_law_is_over", "_law_is_over", "_law_is_over", defArgs s__law_is_over, defBody s__law_is_over, defScope s__law_is_over, [], [], []⟩
def d49 : DX := ⟨fun K => He.ga K "_law_ring_right", "_law_ring_right", "_law_ring_right", defArgs s__law_ring_right, defBody s__law_ring_right, defScope s__law_ring_right, [], [], []⟩
def d50 : DX := ⟨fun K => He.ga K "_law_knot_right", "_law_knot_right", "_law_knot_right", defArgs s__law_knot_right, defBody s__law_knot_right, defScope s__law_knot_right, [], [], []⟩
def d51 : DX := ⟨fun K => He.ga K "_law_along", "_law_along", "_law_along", defArgs s__law_along, defBody s__law_along, defScope s__law_along, [], [], []⟩
def d52 : DX := ⟨fun K => He.ga K "_law_product_told", "_law_product_told", "_law_product_told", defArgs s__law_product_told, defBody s__law_product_told, defScope s__law_product_told, [], [], []⟩
def d53 : DX := ⟨fun K => He.ga K "_law_mixed", "_law_mixed", "_law_mixed", defArgs s__law_mixed, defBody s__law_mixed, defScope s__law_mixed, [], [], []⟩
def d54 : DX := ⟨fun K => He.ga K "_law_knotted", "_law_knotted", "_law_knotted", defArgs s__law_knotted, defBody s__law_knotted, defScope s__law_knotted, [], [], []⟩
def d55 : DX := ⟨fun K => He.ga K "_law_renamed", "_law_renamed", "_law_renamed", defArgs s__law_renamed, defBody s__law_renamed, defScope s__law_renamed, [], [], []⟩
def d56 : DX := ⟨fun K => He.ga K "_law_primes", "_law_primes", "_law_primes", defArgs s__law_primes, defBody s__law_primes, defScope s__law_primes, [], [], []⟩
def d57 : DX := ⟨fun K => He.ga K "_law_build", "_law_build", "_law_build", defArgs s__law_build, defBody s__law_build, defScope s__law_build, [], [], []⟩
def d58 : DX := ⟨fun K => He.ga K "_law_holds", "_law_holds", "_law_holds", defArgs s__law_holds, defBody s__law_holds, defScope s__law_holds, [], [], []⟩
def d59 : DX := ⟨fun K => He.ga K "_law_ring_stands", "_law_ring_stands", "_law_ring_stands", defArgs s__law_ring_stands, defBody s__law_ring_stands, defScope s__law_ring_stands, [], [], []⟩
def d60 : DX := ⟨fun K => He.ga K "_law_knot_stands", "_law_knot_stands", "_law_knot_stands", defArgs s__law_knot_stands, defBody s__law_knot_stands, defScope s__law_knot_stands, [], [], []⟩
def d61 : DX := ⟨fun K => He.ga K "law", "law", "law", defArgs s_law, defBody s_law, defScope s_law, [], [], []⟩
def d62 : DX := ⟨fun K => He.ma K (He.ga K "Machine") "__init__", "__init__", "Machine.__init__", defArgs s_Machine___init__, defBody s_Machine___init__, defScope s_Machine___init__, [], [("start", .int 0)], []⟩
def d63 : DX := ⟨fun K => He.ma K (He.ga K "Machine") "step", "step", "Machine.step", defArgs s_Machine_step, defBody s_Machine_step, defScope s_Machine_step, [], [], []⟩
def d64 : DX := ⟨fun K => He.ma K (He.ga K "Machine") "need_state", "need_state", "Machine.need_state", defArgs s_Machine_need_state, defBody s_Machine_need_state, defScope s_Machine_need_state, [], [], []⟩
def d65 : DX := ⟨fun K => He.ma K (He.ga K "Machine") "led", "led", "Machine.led", defArgs s_Machine_led, defBody s_Machine_led, defScope s_Machine_led, [], [], []⟩
def d66 : DX := ⟨fun K => He.ma K (He.ga K "Machine") "words_to_states", "words_to_states", "Machine.words_to_states", defArgs s_Machine_words_to_states, defBody s_Machine_words_to_states, defScope s_Machine_words_to_states, [], [], []⟩
def d67 : DX := ⟨fun K => He.ma K (He.ga K "Machine") "reachable", "reachable", "Machine.reachable", defArgs s_Machine_reachable, defBody s_Machine_reachable, defScope s_Machine_reachable, [], [], []⟩
def d68 : DX := ⟨fun K => He.ma K (He.ga K "Answer") "__init__", "__init__", "Answer.__init__", defArgs s_Answer___init__, defBody s_Answer___init__, defScope s_Answer___init__, [], [], []⟩
def d69 : DX := ⟨fun K => He.ma K (He.ga K "Ring") "__init__", "__init__", "Ring.__init__", defArgs s_Ring___init__, defBody s_Ring___init__, defScope s_Ring___init__, [], [], ["__class__"]⟩
def d70 : DX := ⟨fun K => He.ma K (He.ga K "Knot") "__init__", "__init__", "Knot.__init__", defArgs s_Knot___init__, defBody s_Knot___init__, defScope s_Knot___init__, [], [], ["__class__"]⟩
def d71 : DX := ⟨fun K => He.ma K (He.ga K "Knot") "told", "told", "Knot.told", defArgs s_Knot_told, defBody s_Knot_told, defScope s_Knot_told, [], [], []⟩
def d72 : DX := ⟨fun K => He.ma K (He.ga K "Knot") "holds", "holds", "Knot.holds", defArgs s_Knot_holds, defBody s_Knot_holds, defScope s_Knot_holds, [], [], []⟩
def d73 : DX := ⟨fun K => He.ma K (He.ga K "Ring") "holds", "holds", "Ring.holds", defArgs s_Ring_holds, defBody s_Ring_holds, defScope s_Ring_holds, [], [], []⟩
def d74 : DX := ⟨fun K => He.ma K (He.ga K "Knot") "__repr__", "__repr__", "Answer.__repr__", defArgs s_Answer___repr__, defBody s_Answer___repr__, defScope s_Answer___repr__, [], [], []⟩
def d75 : DX := ⟨fun K => gAt K "Machine" "alphabet", "alphabet", "Machine.alphabet", defArgs s_Machine_alphabet, defBody s_Machine_alphabet, defScope s_Machine_alphabet, [], [], []⟩
def d76 : DX := ⟨fun K => gAt K "Knot" "is_built", "is_built", "Answer.is_built", defArgs s_Answer_is_built, defBody s_Answer_is_built, defScope s_Answer_is_built, [], [], []⟩
def dxs0 : List DX := [d0, d1, d2, d3, d4, d5, d6, d7, d8, d9, d10, d11, d12, d13, d14, d15, d16, d17, d18, d19]
def dxs1 : List DX := [d20, d21, d22, d23, d24, d25, d26, d27, d28, d29, d30, d31, d32, d33, d34, d35, d36, d37, d38, d39]
def dxs2 : List DX := [d40, d41, d42, d43, d44, d45, d46, d47, d48, d49, d50, d51, d52, d53, d54, d55, d56, d57, d58, d59]
def dxs3 : List DX := [d60, d61, d62, d63, d64, d65, d66, d67, d68, d69, d70, d71, d72, d73, d74, d75, d76]
def dxs : List DX := dxs0 ++ dxs1 ++ dxs2 ++ dxs3
def want1 : Want := ⟨fns, cls, fas, exs, []⟩
def want2 : Want := ⟨fns, cls, [], [], dxs⟩
def names0 : List Str := ["_wall", "AheadError", "InvalidAlphabet", "InvalidWord", "InvalidState", "InvalidRows", "InvalidLine", "InvalidPrime", "InvalidText", "TooMany", "SMALL", "MOST_LETTERS", "copied", "is_number", "is_prime", "ascends", "is_alphabet", "is_word", "need_alphabet", "need_word"]
def names1 : List Str := ["FIGURES", "MOST_FIGURES", "number_in", "numbers_in", "rows_of", "words_of", "MOST_LINES", "MOST_VALUE", "MOST_PRIME_circuits", "is_table", "size_of_table", "size_of_cell", "size_of_line", "refs_of", "is_cell", "changed", "Circuit", "row_of", "line_in", "still"]
def names2 : List Str := ["product", "undone", "exchange", "generated", "exchanges_of", "few_makers", "series_of", "first_part", "powers", "rings_in", "MOST_BUILT", "small_reach", "is_set", "led_set", "letter_image", "one_to_one", "turn_words", "inner", "all_sets", "MOST_CASES"]
def names3 : List Str := ["Answer", "Built", "Ring", "Knot", "are_words", "are_indexes", "along", "product_of", "are_levels", "has_form", "set_lies", "begins_well", "is_next", "ends_well", "between", "all_sides", "steps_well", "Images", "lies_in", "first_class"]
def names4 : List Str := ["bricks_in", "Level", "Layer", "Turner", "put_level", "built", "first_words", "MOST_STATES", "is_row", "parts_in", "Machine", "MOST_PRIME_build", "need_primes", "ring_of", "knot_of", "against", "build", "_law_bag", "_law_pull", "_law_of"]
def names5 : List Str := ["_law_same", "_law_go", "_law_reach", "_law_product", "_law_undone", "_law_exchanged", "_law_places", "_law_is_prime", "_law_is_index", "_law_is_states", "_law_is_over", "_law_ring_right", "_law_knot_right", "_law_along", "_law_product_told", "_law_mixed", "_law_knotted", "_law_renamed", "_law_primes", "_law_build"]
def names6 : List Str := ["_law_holds", "_law_ring_stands", "_law_knot_stands"]
def names : List Str := names0 ++ names1 ++ names2 ++ names3 ++ names4 ++ names5 ++ names6
abbrev qv : Program := PySem.W.view R.prog [136]
noncomputable abbrev endS (w : World) (os : OsState) : Option PySem.W.SharedT := HandSHeadRun.endF (HandSHeadRun.stepQ (HandSHeadRun.denQ HandSHeadRun.tabQ) R.prog w) 30000 R.prog w os
def ob1 (s : PySem.W.SharedT) : AlX := obsX want1 (HandSHeadRun.getT s)
def ob2 (s : PySem.W.SharedT) : AlX := obsX want2 (HandSHeadRun.getT s)
end Hx
/-! N2r -/
set_option maxHeartbeats 0
namespace Hx
open PySem PySem.W PySem.Calls PyProof.Rows L2 Kn
theorem run1 (w : World) (os : OsState) : (endS w os).map (fun s => HandSHeadRun.looksF R.prog (boot_heap w.params) s.abs) = some true := by
  kernel_rfl
theorem run2 (w : World) (os : OsState) : (endS w os).map (fun s => HandSHeadRun.seenQ qv names (importedModules R.prog.main.body) (fun s => xlAt qv [] s && recOk R.toRowW.records s) s.abs) = some (openGood qv names) := by
  kernel_rfl
theorem run3 (w : World) (os : OsState) : (endS w os).map ob1 = some (valX want1) := by
  kernel_rfl
theorem run4 (w : World) (os : OsState) : (endS w os).map ob2 = some (valX want2) := by
  kernel_rfl
end Hx
/-! M0 -/
namespace Kn
theorem len_sub {α : Type} [DecidableEq α] : ∀ {l m : List α}, l.Nodup → (∀ x ∈ l, x ∈ m) → l.length ≤ m.length
  | [], _, _, _ => Nat.zero_le _
  | x :: r, m, h, hs => by
    obtain ⟨h1, h2⟩ := List.nodup_cons.mp h
    have hx : x ∈ m := hs x (List.mem_cons.mpr (.inl rfl))
    have q : r.length ≤ (m.erase x).length := len_sub h2 fun y hy => by
      have hy2 : y ∈ m := hs y (List.mem_cons.mpr (.inr hy))
      have hne : y ≠ x := fun e => h1 (e ▸ hy)
      exact (List.mem_erase_of_ne hne).mpr hy2
    have e : (m.erase x).length = m.length - 1 := List.length_erase_of_mem hx
    have : 0 < m.length := List.length_pos_of_mem hx
    rw [List.length_cons]
    omega
/-- the same items, one of the lists without repetition and not longer: all are met -/
theorem all_met {α : Type} [DecidableEq α] {l m : List α} (h : l.Nodup) (hs : ∀ x ∈ l, x ∈ m) (hl : m.length ≤ l.length) : ∀ x ∈ m, x ∈ l := by
  intro x hx
  by_cases hxl : x ∈ l
  · exact hxl
  · have q := len_sub (l := x :: l) (m := m) (List.nodup_cons.mpr ⟨hxl, h⟩) (fun y hy => by
      rcases List.mem_cons.mp hy with e | e
      · rw [e]; exact hx
      · exact hs y e)
    rw [List.length_cons] at q
    omega

/-! ### turns -/
def IsP (n : Nat) (p : List Nat) : Prop := p.length = n ∧ p.Nodup ∧ ∀ x ∈ p, x < n
instance (n : Nat) (p : List Nat) : Decidable (IsP n p) := by unfold IsP; infer_instance
theorem IsP.get {n : Nat} {p : List Nat} (h : IsP n p) {i : Nat} (hi : i < n) : p[i]? = some (p.getD i 0) := by
  rw [List.getD_eq_getElem?_getD, List.getElem?_eq_getElem (by rw [h.1]; exact hi)]
  rfl
theorem IsP.lt {n : Nat} {p : List Nat} (h : IsP n p) {i : Nat} (hi : i < n) : p.getD i 0 < n := h.2.2 _ (List.mem_of_getElem? (h.get hi))
theorem nodup_get_inj {α : Type} {l : List α} (h : l.Nodup) {i j : Nat} {x : α} (hi : l[i]? = some x) (hj : l[j]? = some x) : i = j := by
  obtain ⟨h1, e1⟩ := List.getElem?_eq_some_iff.mp hi
  obtain ⟨h2, e2⟩ := List.getElem?_eq_some_iff.mp hj
  exact (List.getElem_inj h).mp (e1.trans e2.symm)
theorem IsP.inj {n : Nat} {p : List Nat} (h : IsP n p) {i j : Nat} (hi : i < n) (hj : j < n) (e : p.getD i 0 = p.getD j 0) : i = j :=
  nodup_get_inj h.2.1 (h.get hi) (by rw [e]; exact h.get hj)
theorem IsP.mem {n : Nat} {p : List Nat} (h : IsP n p) {g : Nat} (hg : g < n) : g ∈ p :=
  all_met (l := p) (m := List.range n) h.2.1 (fun x hx => List.mem_range.mpr (h.2.2 x hx)) (by rw [List.length_range, h.1]; exact Nat.le_refl _) g (List.mem_range.mpr hg)
theorem map_nodup {α β : Type} {f : α → β} : ∀ {l : List α}, l.Nodup → (∀ x ∈ l, ∀ y ∈ l, f x = f y → x = y) → (l.map f).Nodup
  | [], _, _ => List.nodup_nil
  | x :: r, h, hi => by
    obtain ⟨h1, h2⟩ := List.nodup_cons.mp h
    rw [List.map_cons]
    refine List.nodup_cons.mpr ⟨fun hm => ?_, map_nodup h2 fun a ha b hb => hi a (List.mem_cons.mpr (.inr ha)) b (List.mem_cons.mpr (.inr hb))⟩
    obtain ⟨y, hy, e⟩ := List.mem_map.mp hm
    have := hi y (List.mem_cons.mpr (.inr hy)) x (List.mem_cons.mpr (.inl rfl)) e
    exact h1 (this ▸ hy)
/-- one, then the other -/
def mul (a b : List Nat) : List Nat := a.map fun i => b.getD i 0
def still (n : Nat) : List Nat := List.range n
def inv (a : List Nat) : List Nat := (List.range a.length).map fun g => a.idxOf g
def exch (a b : List Nat) : List Nat := mul (mul a b) (mul (inv a) (inv b))
def along (ms : List (List Nat)) (n : Nat) (w : List Nat) : List Nat := w.foldl (fun acc i => mul acc (ms.getD i [])) (still n)
theorem mul_len (a b : List Nat) : (mul a b).length = a.length := by unfold mul; exact List.length_map _
theorem mul_get {a b : List Nat} {i x : Nat} (h : a[i]? = some x) : (mul a b)[i]? = some (b.getD x 0) := by
  unfold mul
  rw [List.getElem?_map, h]
  rfl
theorem mul_getD {a b : List Nat} {i : Nat} (h : i < a.length) : (mul a b).getD i 0 = b.getD (a.getD i 0) 0 := by
  have e : a[i]? = some (a.getD i 0) := by
    rw [List.getD_eq_getElem?_getD, List.getElem?_eq_getElem h]
    rfl
  rw [List.getD_eq_getElem?_getD, mul_get e]
  rfl
theorem isP_still (n : Nat) : IsP n (still n) := ⟨List.length_range, List.nodup_range, fun x hx => List.mem_range.mp hx⟩
theorem IsP.mul {n : Nat} {a b : List Nat} (ha : IsP n a) (hb : IsP n b) : IsP n (mul a b) := by
  refine ⟨by rw [mul_len]; exact ha.1, map_nodup ha.2.1 fun x hx y hy e => hb.inj (ha.2.2 x hx) (ha.2.2 y hy) e, fun x hx => ?_⟩
  obtain ⟨i, hi, rfl⟩ := List.mem_map.mp hx
  exact hb.lt (ha.2.2 i hi)
theorem ext_get {a b : List Nat} (h : ∀ i : Nat, a[i]? = b[i]?) : a = b := List.ext_getElem? h
theorem range_get {n i : Nat} (h : i < n) : (List.range n)[i]? = some i := by
  rw [List.getElem?_eq_getElem (by rw [List.length_range]; exact h), List.getElem_range]
theorem range_getD {n i : Nat} (h : i < n) : (List.range n).getD i 0 = i := by
  rw [List.getD_eq_getElem?_getD, range_get h]
  rfl
theorem still_getD {n i : Nat} (h : i < n) : (still n).getD i 0 = i := range_getD h
theorem mul_still {n : Nat} {a : List Nat} (h : ∀ x ∈ a, x < n) : mul a (still n) = a := by
  unfold mul
  have e : a.map (fun i => (still n).getD i 0) = a.map id := List.map_congr_left fun x hx => still_getD (h x hx)
  rw [e, List.map_id]
theorem still_mul {n : Nat} {b : List Nat} (h : b.length = n) : mul (still n) b = b := by
  refine ext_get fun i => ?_
  by_cases hi : i < n
  · have e : (still n)[i]? = some i := range_get hi
    rw [mul_get e, List.getD_eq_getElem?_getD, List.getElem?_eq_getElem (by rw [h]; exact hi)]
    rfl
  · rw [List.getElem?_eq_none (by rw [mul_len]; show (List.range n).length ≤ i; rw [List.length_range]; omega), List.getElem?_eq_none (by omega)]
theorem mul_assoc {n : Nat} {a b c : List Nat} (ha : ∀ x ∈ a, x < n) (hb : b.length = n) : mul (mul a b) c = mul a (mul b c) := by
  unfold mul
  rw [List.map_map]
  refine List.map_congr_left fun x hx => ?_
  show c.getD (b.getD x 0) 0 = (Kn.mul b c).getD x 0
  rw [mul_getD (by rw [hb]; exact ha x hx)]
theorem inv_len (a : List Nat) : (inv a).length = a.length := by
  unfold inv
  rw [List.length_map, List.length_range]
theorem inv_getD {a : List Nat} {g : Nat} (h : g < a.length) : (inv a).getD g 0 = a.idxOf g := by
  unfold inv
  rw [List.getD_eq_getElem?_getD, List.getElem?_map, range_get h]
  rfl
theorem idx_get {a : List Nat} {g : Nat} (h : g ∈ a) : a[a.idxOf g]? = some g := by
  have hl : a.idxOf g < a.length := List.idxOf_lt_length_of_mem h
  rw [List.getElem?_eq_getElem hl]
  exact congrArg some (List.getElem_idxOf hl)
theorem IsP.inv {n : Nat} {a : List Nat} (h : IsP n a) : IsP n (inv a) := by
  refine ⟨by rw [inv_len]; exact h.1, map_nodup List.nodup_range fun x hx y hy e => ?_, fun x hx => ?_⟩
  · have hx' : x < n := by rw [← h.1]; exact List.mem_range.mp hx
    have hy' : y < n := by rw [← h.1]; exact List.mem_range.mp hy
    have e1 := idx_get (h.mem hx')
    have e2 := idx_get (h.mem hy')
    have e : a.idxOf x = a.idxOf y := e
    rw [e, e2] at e1
    exact (Option.some.inj e1).symm
  · obtain ⟨g, hg, rfl⟩ := List.mem_map.mp hx
    have : a.idxOf g < a.length := List.idxOf_lt_length_of_mem (h.mem (by rw [← h.1]; exact List.mem_range.mp hg))
    rw [h.1] at this
    exact this
theorem mul_inv {n : Nat} {a : List Nat} (h : IsP n a) : mul a (inv a) = still n := by
  refine ext_get fun i => ?_
  by_cases hi : i < n
  · have e := h.get hi
    rw [mul_get e, inv_getD (by rw [h.1]; exact h.lt hi)]
    have e2 := idx_get (h.mem (h.lt hi))
    rw [nodup_get_inj h.2.1 e2 e]
    exact (range_get hi).symm
  · rw [List.getElem?_eq_none (by rw [mul_len, h.1]; omega), List.getElem?_eq_none (by show (List.range n).length ≤ i; rw [List.length_range]; omega)]
theorem inv_mul {n : Nat} {a : List Nat} (h : IsP n a) : mul (inv a) a = still n := by
  refine ext_get fun i => ?_
  by_cases hi : i < n
  · have e := h.inv.get hi
    rw [mul_get e, inv_getD (by rw [h.1]; exact hi), List.getD_eq_getElem?_getD, idx_get (h.mem hi)]
    exact (range_get hi).symm
  · rw [List.getElem?_eq_none (by rw [mul_len, inv_len, h.1]; omega), List.getElem?_eq_none (by show (List.range n).length ≤ i; rw [List.length_range]; omega)]
theorem IsP.exch {n : Nat} {a b : List Nat} (ha : IsP n a) (hb : IsP n b) : IsP n (exch a b) := (ha.mul hb).mul (ha.inv.mul hb.inv)
theorem along_nil (ms : List (List Nat)) (n : Nat) : along ms n [] = still n := rfl
theorem along_snoc (ms : List (List Nat)) (n : Nat) (w : List Nat) (i : Nat) : along ms n (w ++ [i]) = mul (along ms n w) (ms.getD i []) := by
  unfold along
  rw [List.foldl_append]
  rfl
/-! ### all rows: a bound for every search -/
def rowsN (n : Nat) : Nat → List (List Nat)
  | 0 => [[]]
  | k + 1 => (List.range n).flatMap fun x => (rowsN n k).map (x :: ·)
theorem mem_rowsN {n : Nat} : ∀ {k : Nat} {p : List Nat}, p.length = k → (∀ x ∈ p, x < n) → p ∈ rowsN n k
  | 0, p, hl, _ => by
    have : p = [] := List.length_eq_zero_iff.mp hl
    rw [this]
    exact List.mem_singleton.mpr rfl
  | k + 1, [], hl, _ => by cases hl
  | k + 1, x :: r, hl, hx => by
    show x :: r ∈ (List.range n).flatMap fun x => (rowsN n k).map (x :: ·)
    refine List.mem_flatMap.mpr ⟨x, List.mem_range.mpr (hx x (List.mem_cons.mpr (.inl rfl))), List.mem_map.mpr ⟨r, mem_rowsN (by simpa using hl) fun y hy => hx y (List.mem_cons.mpr (.inr hy)), rfl⟩⟩
theorem flat_len {α β : Type} {f : α → List β} {c : Nat} : ∀ {l : List α}, (∀ x ∈ l, (f x).length = c) → (l.flatMap f).length = l.length * c
  | [], _ => by simp
  | x :: r, h => by
    rw [List.flatMap_cons, List.length_append, h x (List.mem_cons.mpr (.inl rfl)), flat_len fun y hy => h y (List.mem_cons.mpr (.inr hy)), List.length_cons, Nat.succ_mul, Nat.add_comm]
theorem rowsN_len (n : Nat) : ∀ k : Nat, (rowsN n k).length = n ^ k
  | 0 => rfl
  | k + 1 => by
    show ((List.range n).flatMap fun x => (rowsN n k).map (x :: ·)).length = n ^ (k + 1)
    rw [flat_len (c := n ^ k) (fun x _ => by rw [List.length_map, rowsN_len n k]), List.length_range, Nat.pow_succ, Nat.mul_comm]
theorem pow_le6 {n k : Nat} (hn : n ≤ 8) (hk : k ≤ 6) : n ^ k ≤ 8 ^ 6 := Nat.le_trans (Nat.pow_le_pow_left hn k) (Nat.pow_le_pow_right (by decide) hk)
/-- rows of at most six states below eight: there are at most so many -/
theorem rows_few {n k : Nat} {l : List (List Nat)} (hn : n ≤ 8) (hk : k ≤ 6) (hnd : l.Nodup) (h : ∀ p ∈ l, p.length = k ∧ ∀ x ∈ p, x < n) : l.length ≤ 262144 := by
  have q := len_sub (m := rowsN n k) hnd fun p hp => mem_rowsN (h p hp).1 (h p hp).2
  rw [rowsN_len] at q
  exact Nat.le_trans q (pow_le6 hn hk)
/-- of turns of six -/
theorem turns_few {n : Nat} {l : List (List Nat)} (hn : n ≤ 6) (hnd : l.Nodup) (h : ∀ p ∈ l, IsP n p) : l.length ≤ 46656 := by
  have q := len_sub (m := rowsN n n) hnd fun p hp => mem_rowsN (h p hp).1 (h p hp).2.2
  rw [rowsN_len] at q
  exact Nat.le_trans q (Nat.le_trans (Nat.pow_le_pow_left hn n) (Nat.pow_le_pow_right (by decide) hn))
end Kn
/-! K0 -/
namespace L2
open PySem PySem.Spec PyProof.Rows
theorem Same.upd' {H H' : Hp} {p : Addr} {o : HO} (s : Same H H') (h : H p = none) : Same H (upd H' p o) := fun b x e => by
  rw [upd_ne (ne_of_none e h)]
  exact s b x e
theorem Same.tup {K : PySem.W.Frag} {H H' : Hp} {a : Addr} {xs : List V} (e : Same H H') (h : SqT K H a xs) : SqT K H' a xs := by
  rcases h with (h | ⟨o, h⟩) | h
  · exact .inl (.inl (e _ _ h))
  · exact .inl (.inr ⟨o, e _ _ h⟩)
  · exact .inr h
end L2
namespace Kn
open PySem PySem.Spec PyProof.Rows L2
/-! ### the text -/
/-- a def of the module, no defaults -/
abbrev FnP (K : PySem.W.Frag) (x : Str) (st : Stmt) (f : Addr) (fd : FuncData) : Prop := FunD K x x (defArgs st) (defBody st) (defScope st) [] [] f fd
/-- a def of the module that keeps its promise, ready to be called by its name -/
structure Fo (P : Program) (w : World) (K : Fr) (mg : Str → Option Value) (base : Heap) (x : Str) (ps : List Str) (k : Nat) (sp : Sp) : Prop where
  ex : ∃ fd, FnOk P w K mg base CX0 k (He.ga K x) fd ps sp ∧ Binds K fd ps []
  g : mg x = some (.ref (He.ga K x))
  kp : PySem.W.keepIn K (.ref (He.ga K x)) = true
/-- f(e, ..) -/
theorem pc {X : Cx} {x : Str} {ps : List Str} {j k : Nat} {sp : Sp} {e : Expr} {es : List Expr} {t : TA} {p pos : Pos} (F : Fo X.prog X.w X.K X.mg X.base x ps j sp) (hr : Room k X.A) (hg : Gl X x) (ha : PA X (e :: es) t) (hjk : j ≤ k := by first | decide | exact Nat.le_refl _)
    (hdb : (x == ("__debug__" : Str)) = false := by decide) (he : starEach (e :: es) X.env = (false, eval e X.env) :: starEach es X.env := by rfl) (hpl : (backTo pos (starEach es X.env)).any (·.1) = false := by rfl) :
    PE X (.Call (.Name x p) (e :: es) [] pos) (tCall sp [] E0 t) := by
  obtain ⟨fd, G, b⟩ := F.ex
  exact pe_call G (hr.mono hjk) hg F.g F.kp b .nil pass0 ha hdb he hpl
theorem pc0 {X : Cx} {x : Str} {ps : List Str} {j k : Nat} {sp : Sp} {p pos : Pos} (F : Fo X.prog X.w X.K X.mg X.base x ps j sp) (hr : Room k X.A) (hg : Gl X x) (hjk : j ≤ k := by first | decide | exact Nat.le_refl _) (hdb : (x == ("__debug__" : Str)) = false := by decide) :
    PE X (.Call (.Name x p) [] [] pos) (tCall sp [] E0 tNil) := by
  obtain ⟨fd, G, b⟩ := F.ex
  exact pe_call0 G (hr.mono hjk) hg F.g F.kp b .nil pass0 hdb
/-! ### heaps -/
theorem same_upd {H : Hp} {p : Addr} {o : HO} (h : H p = none) : Same H (upd H p o) := fun b x e => by
  rw [upd_ne (ne_of_none e h)]
  exact e
/-- what may never change stays: tuples -/
def Tame (H H' : Hp) : Prop := (∀ b xs, H b = some (.tup xs) → H' b = some (.tup xs)) ∧ ∀ b o u, H b = some (.frz o u) → H' b = some (.frz o u)
theorem Tame.refl (H : Hp) : Tame H H := ⟨fun _ _ h => h, fun _ _ _ h => h⟩
theorem Tame.trans {H H1 H2 : Hp} (a : Tame H H1) (b : Tame H1 H2) : Tame H H2 := ⟨fun c xs h => b.1 c xs (a.1 c xs h), fun c o u h => b.2 c o u (a.2 c o u h)⟩
theorem Tame.of {H H' : Hp} (s : Same H H') : Tame H H' := ⟨fun b xs h => s _ _ h, fun b o u h => s _ _ h⟩
theorem Tame.tup {K : Fr} {H H' : Hp} {a : Addr} {xs : List V} (e : Tame H H') (h : SqT K H a xs) : SqT K H' a xs := by
  rcases h with (h | ⟨o, h⟩) | h
  · exact .inl (.inl (e.1 _ _ h))
  · exact .inl (.inr ⟨o, e.2 _ _ _ h⟩)
  · exact .inr h
/-- an object that is no tuple may change -/
def Soft : Option HO → Prop
  | some (.tup _) => False
  | some (.frz _ _) => False
  | _ => True
theorem Tame.upd {H : Hp} {p : Addr} {o : HO} (h : Soft (H p)) : Tame H (upd H p o) := by
  refine ⟨fun b xs e => ?_, fun b q u e => ?_⟩
  · rw [upd_ne (fun z => by rw [z] at e; rw [e] at h; exact h)]
    exact e
  · rw [upd_ne (fun z => by rw [z] at e; rw [e] at h; exact h)]
    exact e
theorem Soft.none {H : Hp} {p : Addr} (h : H p = Option.none) : Soft (H p) := by rw [h]; trivial
theorem Soft.lst {H : Hp} {p : Addr} {xs : List V} (h : H p = some (.lst xs)) : Soft (H p) := by rw [h]; trivial
theorem Soft.dT {H : Hp} {p : Addr} {xs : List (List Key × V)} (h : H p = some (.dT xs)) : Soft (H p) := by rw [h]; trivial
theorem Soft.dK {H : Hp} {p : Addr} {xs : List (Key × V)} (h : H p = some (.dK xs)) : Soft (H p) := by rw [h]; trivial
theorem Soft.ins {H : Hp} {p C dx : Addr} {fs : List (Str × V)} (h : H p = some (.ins C dx fs)) : Soft (H p) := by rw [h]; trivial
/-! ### tuples of small numbers -/
def tI (ns : List Nat) : List V := ns.map fun n : Nat => V.int (n : Int)
theorem tI_len (ns : List Nat) : (tI ns).length = ns.length := by unfold tI; exact List.length_map _
theorem tI_get {ns : List Nat} {i : Nat} {v : V} (h : (tI ns)[i]? = some v) : ∃ n, ns[i]? = some n ∧ v = .int (n : Int) := by
  unfold tI at h
  rw [List.getElem?_map] at h
  cases e : ns[i]? with
  | none => rw [e] at h; cases h
  | some n => rw [e] at h; exact ⟨n, rfl, (Option.some.inj h).symm⟩
theorem tI_at {ns : List Nat} {i n : Nat} (h : ns[i]? = some n) : (tI ns)[i]? = some (.int (n : Int)) := by
  unfold tI
  rw [List.getElem?_map, h]
  rfl
theorem tI_cons (x : Nat) (xs : List Nat) : tI (x :: xs) = V.int (x : Int) :: tI xs := by
  unfold tI
  rw [List.map_cons]
theorem tI_nil : tI [] = [] := rfl
theorem tI_inj : ∀ {a b : List Nat}, tI a = tI b → a = b
  | [], [], _ => rfl
  | [], y :: ys, e => by
    rw [tI_cons] at e
    cases e
  | x :: xs, [], e => by
    rw [tI_cons] at e
    cases e
  | x :: xs, y :: ys, e => by
    rw [tI_cons, tI_cons] at e
    injection e with e1 e2
    injection e1 with e3
    rw [tI_inj e2, Int.ofNat.inj e3]
theorem szl {n : Nat} (h : n ≤ 1000000) : n ≤ sizeLine := Nat.le_trans h (by decide)
theorem szl' {n : Nat} (h : n ≤ 1000000) : n < sizeLine := Nat.lt_of_le_of_lt h (by decide)
/-! ### rules with K told -/
section
variable {X : Cx} {K : Fr}
theorem ixT (K : Fr) (hK : X.K = K := by rfl) : IxR X (rIxT K) := by subst hK; exact ix_tup
theorem ixL (K : Fr) (hK : X.K = K := by rfl) : IxR X (rIxL K) := by subst hK; exact ix_list
theorem piT (K : Fr) {tg l : Expr} {tl : TE} (hl : PE X l tl) (hK : X.K = K := by rfl) : PI X tg l (iTup K tl) := by subst hK; exact pi_tup hl
theorem piL (K : Fr) {tg l : Expr} {tl : TE} (hl : PE X l tl) (hK : X.K = K := by rfl) : PI X tg l (iList K tl) := by subst hK; exact pi_list hl
end
/-! ### what an expression evaluates to, all that stood kept -/
def Ev (te : TE) (σ : L2.St) (H : Hp) (P : V → Hp → Prop) : Prop := ∀ Q : VK, (∀ v H', Same H H' → P v H' → Q v H') → te σ H Q
def EvB (t : TT) (σ : L2.St) (H : Hp) (P : Bool → Hp → Prop) : Prop := ∀ Q : Bool → Hp → Prop, (∀ b H', Same H H' → P b H' → Q b H') → t σ H Q
/-! ### walks that change nothing that stood at H0 -/
structure Wk (J : It) (H0 : Hp) (n : Nat) (Xr : Nat → V → Hp → Prop) : Prop where
  go : ∀ i H, Same H0 H → i < n → J.go i H
  yld : ∀ i H x H', Same H0 H → i < n → J.yld i H x H' → Same H H' ∧ Xr i x H'
  stop : ∀ H, Same H0 H → J.stop n H
theorem wk_tup {K : Fr} {H0 : Hp} {a : Addr} {xs : List V} (h : SqT K H0 a xs) : Wk (Itt K a) H0 xs.length (fun i x _ => xs[i]? = some x) where
  go := fun i H s hi => ⟨xs, xs[i], s.tup h, List.getElem?_eq_getElem hi⟩
  yld := fun i H x H' s hi hy => by
    obtain ⟨e, y⟩ := hy
    subst e
    exact ⟨Same.refl _, y xs (s.tup h)⟩
  stop := fun H s => ⟨xs, s.tup h, Nat.le_refl _⟩
theorem wk_lst {K : Fr} {H0 : Hp} {a : Addr} {xs : List V} (h : SqL K H0 a xs) : Wk (Itl K a) H0 xs.length (fun i x _ => xs[i]? = some x) where
  go := fun i H s hi => ⟨xs, xs[i], s.seq h, List.getElem?_eq_getElem hi⟩
  yld := fun i H x H' s hi hy => by
    obtain ⟨e, y⟩ := hy
    subst e
    exact ⟨Same.refl _, y xs (s.seq h)⟩
  stop := fun H s => ⟨xs, s.seq h, Nat.le_refl _⟩
theorem wk_rng {H0 : Hp} {lo : Int} {n : Nat} : Wk (Itr lo n) H0 n (fun i x _ => x = V.int (lo + (i : Int))) where
  go := fun i H s hi => hi
  yld := fun i H x H' s hi hy => by
    obtain ⟨e, y⟩ := hy
    subst e
    exact ⟨Same.refl _, y⟩
  stop := fun H s => Nat.le_refl _
section
variable {J : It} {H0 : Hp} {n : Nat} {Xr : Nat → V → Hp → Prop}
theorem for_wk {g : TG} {tb : TS} {D : Ends} {σ : L2.St} {H : Hp} (Wl : Wk J H0 n Xr) (Pv : Nat → L2.St → Hp → Prop) (h0 : Pv 0 σ H) (hS : ∀ i σ H, Pv i σ H → Same H0 H)
    (hs : ∀ i x σ H H', i < n → Pv i σ H → Same H H' → Xr i x H' → g x σ H' fun σ2 H2 => tb { D with nx := Pv (i + 1), ct := Pv (i + 1), bk := D.nx } σ2 H2) (hd : ∀ σ H, Pv n σ H → D.nx σ H) :
    ∃ W : Nat → Nat → L2.St → Hp → Prop, (∃ m, W 0 m σ H) ∧ ∀ i m σ H, W i m σ H →
      (J.stop i H ∧ D.nx σ H) ∨ (J.go i H ∧ ∃ N : L2.St → Hp → Prop, (∀ σ' H', N σ' H' → ∃ m', m' < m ∧ W (i + 1) m' σ' H') ∧ ∀ x H', J.yld i H x H' → g x σ H' fun σ2 H2 => tb { D with nx := N, ct := N, bk := D.nx } σ2 H2) := by
  refine ⟨fun i m σ H => m = n - i ∧ i ≤ n ∧ Pv i σ H, ⟨n, by simp, Nat.zero_le _, h0⟩, ?_⟩
  rintro i m σ H ⟨rfl, hi, p⟩
  have q := hS i σ H p
  by_cases hlt : i < n
  · refine .inr ⟨Wl.go i H q hlt, Pv (i + 1), fun σ' H' p' => ⟨n - (i + 1), by omega, rfl, hlt, p'⟩, fun x H' y => ?_⟩
    obtain ⟨s1, xr⟩ := Wl.yld i H x H' q hlt y
    exact hs i x σ H H' hlt p s1 xr
  · have e : i = n := by omega
    subst e
    exact .inl ⟨Wl.stop H q, hd σ H p⟩
theorem lc_wk {g : TG} {tt : TT} {te : TE} {vs : List Nat} {σ : L2.St} {H1 : Hp} {D : Addr} {Qd : Hp → Prop} (Wl : Wk J H0 n Xr) (Pv : Nat → Hp → Prop) (h0 : Pv 0 (upd H1 D (.lst []))) (hS : ∀ i H, Pv i H → Same H0 H)
    (hs : ∀ i x H H', i < n → Pv i H → Same H H' → Xr i x H' → g x (wipe σ vs) H' fun σ2 H2 => wipe σ2 vs = wipe σ vs ∧ tt σ2 H2 fun b H3 =>
      if b = true then te σ2 H3 fun y H4 => ∃ acc, H4 D = some (.lst acc) ∧ acc.length < sizeLine ∧ Pv (i + 1) (upd H4 D (.lst (acc ++ [y]))) else Pv (i + 1) H3) (hd : ∀ H, Pv n H → Qd H) :
    ∃ W : Nat → Nat → Hp → Prop, (∃ m, W 0 m (upd H1 D (.lst []))) ∧ ∀ i m H, W i m H →
      (J.stop i H ∧ Qd H) ∨ (J.go i H ∧ ∃ Nx : Hp → Prop, (∀ H', Nx H' → ∃ m', m' < m ∧ W (i + 1) m' H') ∧ ∀ x H', J.yld i H x H' → g x (wipe σ vs) H' fun σ2 H2 => wipe σ2 vs = wipe σ vs ∧ tt σ2 H2 fun b H3 =>
        if b = true then te σ2 H3 fun y H4 => ∃ acc, H4 D = some (.lst acc) ∧ acc.length < sizeLine ∧ Nx (upd H4 D (.lst (acc ++ [y]))) else Nx H3) := by
  refine ⟨fun i m H => m = n - i ∧ i ≤ n ∧ Pv i H, ⟨n, by simp, Nat.zero_le _, h0⟩, ?_⟩
  rintro i m H ⟨rfl, hi, p⟩
  have q := hS i H p
  by_cases hlt : i < n
  · refine .inr ⟨Wl.go i H q hlt, Pv (i + 1), fun H' p' => ⟨n - (i + 1), by omega, rfl, hlt, p'⟩, fun x H' y => ?_⟩
    obtain ⟨s1, xr⟩ := Wl.yld i H x H' q hlt y
    exact hs i x H H' hlt p s1 xr
  · have e : i = n := by omega
    subst e
    exact .inl ⟨Wl.stop H q, hd H p⟩
/-- [e for target in J] where e keeps all that stood: R i is what is true of the i-th item, whatever changes but tuples -/
theorem lc_map {g : TG} {te : TE} {vs : List Nat} {σ : L2.St} {H1 : Hp} {D : Addr} {Qd : Hp → Prop} (Wl : Wk J H1 n Xr) (hD : H1 D = none) (hz : n ≤ 1000000) (S : Nat → L2.St → Hp → Prop) (R : Nat → V → Hp → Prop)
    (stab : ∀ (i : Nat) (y : V) (H2 H3 : Hp), i < n → (Tame H2 H3) → R i y H2 → R i y H3)
    (hg : ∀ i x H (Q : L2.St → Hp → Prop), i < n → Same H1 H → Xr i x H → (∀ σ2, wipe σ2 vs = wipe σ vs → S i σ2 H → Q σ2 H) → g x (wipe σ vs) H Q)
    (he : ∀ i σ2 H, i < n → Same H1 H → S i σ2 H → Ev te σ2 H (R i))
    (hd : ∀ (ys : List V) H, Same H1 H → H D = some (.lst ys) → ys.length = n → (∀ (i : Nat) (y : V), ys[i]? = some y → R i y H) → Qd H) :
    ∃ W : Nat → Nat → Hp → Prop, (∃ m, W 0 m (upd H1 D (.lst []))) ∧ ∀ i m H, W i m H →
      (J.stop i H ∧ Qd H) ∨ (J.go i H ∧ ∃ Nx : Hp → Prop, (∀ H', Nx H' → ∃ m', m' < m ∧ W (i + 1) m' H') ∧ ∀ x H', J.yld i H x H' → g x (wipe σ vs) H' fun σ2 H2 => wipe σ2 vs = wipe σ vs ∧ tYes σ2 H2 fun b H3 =>
        if b = true then te σ2 H3 fun y H4 => ∃ acc, H4 D = some (.lst acc) ∧ acc.length < sizeLine ∧ Nx (upd H4 D (.lst (acc ++ [y]))) else Nx H3) := by
  refine lc_wk Wl (fun i H => i ≤ n ∧ Same H1 H ∧ ∃ ys, H D = some (.lst ys) ∧ ys.length = i ∧ ∀ j y, ys[j]? = some y → R j y H) ⟨Nat.zero_le _, same_upd hD, [], upd_same, rfl, fun j y h => by simp at h⟩ (fun i H p => p.2.1) ?_ ?_
  · rintro i x H H' hi ⟨_, sm, ys, hd', hl, hr⟩ s1 xr
    refine hg i x H' _ hi (sm.trans s1) xr fun σ2 hw hS => ⟨hw, ?_⟩
    show te σ2 H' _
    refine he i σ2 H' hi (sm.trans s1) hS _ fun y H4 s4 r4 => ?_
    have hD4 : H4 D = some (.lst ys) := s4 _ _ (s1 _ _ hd')
    have ts : Tame H4 (upd H4 D (.lst (ys ++ [y]))) := Tame.upd (Soft.lst hD4)
    refine ⟨ys, hD4, szl' (by omega), hi, Same.upd' ((sm.trans s1).trans s4) hD, ys ++ [y], upd_same, by rw [List.length_append, hl]; rfl, fun j z hj => ?_⟩
    by_cases hji : j < ys.length
    · rw [List.getElem?_append_left hji] at hj
      exact stab j z _ _ (by omega) (((Tame.of s1).trans (Tame.of s4)).trans ts) (hr j z hj)
    · rw [List.getElem?_append_right (by omega)] at hj
      have e0 : j - ys.length = 0 := by
        cases e : j - ys.length with
        | zero => rfl
        | succ k => rw [e] at hj; simp at hj
      rw [e0] at hj
      have ez : y = z := Option.some.inj hj
      subst ez
      have ej : j = i := by omega
      subst ej
      exact stab j y _ _ hi ts r4
  · rintro H ⟨_, sm, ys, hd', hl, hr⟩
    exact hd ys H sm hd' hl hr
end
/-- lists by their items -/
theorem eq_tI {ys : List V} {ns : List Nat} (hl : ys.length = ns.length) (h : ∀ (i : Nat) (y : V), ys[i]? = some y → ∃ n : Nat, ns[i]? = some n ∧ y = V.int (n : Int)) : ys = tI ns := by
  apply List.ext_getElem?
  intro i
  cases e : ys[i]? with
  | none =>
    have : ys.length ≤ i := List.getElem?_eq_none_iff.mp e
    exact (List.getElem?_eq_none_iff.mpr (by rw [tI_len]; omega)).symm
  | some y =>
    obtain ⟨n, hn, rfl⟩ := h i y e
    exact (tI_at hn).symm
/-- a value that is a tuple of small numbers -/
def Tup (H : Hp) (v : V) (ns : List Nat) : Prop := ∃ a, v = .ref a ∧ H a = some (.tup (tI ns))
theorem Tup.tame {H H' : Hp} {v : V} {ns : List Nat} (t : Tame H H') (h : Tup H v ns) : Tup H' v ns := by
  obtain ⟨a, e, h⟩ := h
  exact ⟨a, e, t.1 _ _ h⟩
theorem Tup.same {H H' : Hp} {v : V} {ns : List Nat} (t : Same H H') (h : Tup H v ns) : Tup H' v ns := h.tame (Tame.of t)
/-- values that are tuples of small numbers, one by one -/
def TL (H : Hp) (vs : List V) (rows : List (List Nat)) : Prop := vs.length = rows.length ∧ ∀ (i : Nat) (v : V), vs[i]? = some v → ∃ r, rows[i]? = some r ∧ Tup H v r
theorem TL.nil {H : Hp} : TL H [] [] := ⟨rfl, fun i v h => by simp at h⟩
theorem TL.tame {H H' : Hp} {vs : List V} {rows : List (List Nat)} (t : Tame H H') (h : TL H vs rows) : TL H' vs rows := ⟨h.1, fun i v e => by
  obtain ⟨r, h1, h2⟩ := h.2 i v e
  exact ⟨r, h1, h2.tame t⟩⟩
theorem TL.same {H H' : Hp} {vs : List V} {rows : List (List Nat)} (t : Same H H') (h : TL H vs rows) : TL H' vs rows := h.tame (Tame.of t)
theorem TL.at {H : Hp} {vs : List V} {rows : List (List Nat)} (h : TL H vs rows) {i : Nat} {r : List Nat} (e : rows[i]? = some r) : ∃ v, vs[i]? = some v ∧ Tup H v r := by
  have hl : i < vs.length := by rw [h.1]; exact (List.getElem?_eq_some_iff.mp e).1
  obtain ⟨r', h1, h2⟩ := h.2 i vs[i] (List.getElem?_eq_getElem hl)
  rw [e] at h1
  cases h1
  exact ⟨_, List.getElem?_eq_getElem hl, h2⟩
theorem TL.snoc {H : Hp} {vs : List V} {rows : List (List Nat)} {v : V} {r : List Nat} (h : TL H vs rows) (hv : Tup H v r) : TL H (vs ++ [v]) (rows ++ [r]) := by
  refine ⟨by rw [List.length_append, List.length_append, h.1]; rfl, fun i u e => ?_⟩
  by_cases hi : i < vs.length
  · rw [List.getElem?_append_left hi] at e
    obtain ⟨q, h1, h2⟩ := h.2 i u e
    exact ⟨q, by rw [List.getElem?_append_left (by rw [← h.1]; exact hi)]; exact h1, h2⟩
  · rw [List.getElem?_append_right (by omega)] at e
    have e0 : i - vs.length = 0 := by
      cases q : i - vs.length with
      | zero => rfl
      | succ k => rw [q] at e; simp at e
    rw [e0] at e
    have ev : v = u := Option.some.inj e
    subst ev
    refine ⟨r, ?_, hv⟩
    rw [List.getElem?_append_right (by rw [← h.1]; omega), show i - rows.length = 0 by rw [← h.1]; exact e0]
    rfl
/-! ### dicts by tuples of small numbers -/
def kN (ns : List Nat) : List Key := ns.map fun n : Nat => (Sum.inl (n : Int) : Key)
theorem kN_kV (ns : List Nat) : (kN ns).map kV = tI ns := by
  unfold kN tI
  rw [List.map_map]
  rfl
theorem kN_inj {a b : List Nat} (h : kN a = kN b) : a = b := by
  have e : (kN a).map kV = (kN b).map kV := by rw [h]
  rw [kN_kV, kN_kV] at e
  exact tI_inj e
def gT (l : List (List Nat × V)) : List (List Key × V) := l.map fun p => (kN p.1, p.2)
theorem gT_len (l : List (List Nat × V)) : (gT l).length = l.length := by unfold gT; exact List.length_map _
theorem gT_snoc (l : List (List Nat × V)) (k : List Nat) (v : V) : gT (l ++ [(k, v)]) = gT l ++ [(kN k, v)] := by
  unfold gT
  rw [List.map_append]
  rfl
theorem val_gT_none {l : List (List Nat × V)} {k : List Nat} (h : k ∉ l.map (·.1)) : valV (gT l) (kN k) = none := by
  induction l with
  | nil => rfl
  | cons p r ih =>
    rw [List.map_cons, List.mem_cons, not_or] at h
    have e : gT (p :: r) = (kN p.1, p.2) :: gT r := by unfold gT; rw [List.map_cons]
    rw [e, valV_neg (fun z => h.1 (kN_inj z).symm)]
    exact ih h.2
theorem val_gT_some {l : List (List Nat × V)} {k : List Nat} {v : V} (hn : (l.map (·.1)).Nodup) (h : (k, v) ∈ l) : valV (gT l) (kN k) = some v := by
  induction l with
  | nil => cases h
  | cons p r ih =>
    have e : gT (p :: r) = (kN p.1, p.2) :: gT r := by unfold gT; rw [List.map_cons]
    rw [List.map_cons] at hn
    obtain ⟨h1, h2⟩ := List.nodup_cons.mp hn
    rw [e]
    rcases List.mem_cons.mp h with z | z
    · rw [← z]
      exact valV_pos rfl
    · have hk : k ∈ r.map (·.1) := List.mem_map.mpr ⟨_, z, rfl⟩
      rw [valV_neg (fun q => h1 (by rw [kN_inj q]; exact hk))]
      exact ih h2 z
theorem put_gT {l : List (List Nat × V)} {k : List Nat} (v : V) (h : k ∉ l.map (·.1)) : putK (gT l) (kN k) v = gT (l ++ [(k, v)]) := by
  rw [putK_new v (val_gT_none h), gT_snoc]
end Kn
/-! K1 -/
set_option maxHeartbeats 2000000
namespace Kn
open PySem PySem.Spec PyProof.Rows L2
/-- the signs of a text, as texts -/
def signs (z : Str) : List V := z.cps.toList.map fun c => V.str ⟨#[c]⟩
/-- what may be walked: v is what is given, xs its items, ok says that it stands so -/
inductive Src : V → List V → (Hp → Prop) → Prop where
  | tup (a : Addr) (xs : List V) : Src (.ref a) xs (fun H => H a = some (.tup xs))
  | tupR (a : Addr) (xs : List V) : Src (.ref a) xs (fun H => Rd H a (.tup xs))
  | lst (a : Addr) (xs : List V) : Src (.ref a) xs (fun H => H a = some (.lst xs))
  | txt (z : Str) : Src (.str z) (signs z) (fun _ => True)
/-- what stands of the source itself -/
structure SrcX (P : Program) (w : World) (u : Value) (xs : List V) (ok : Hp → Prop) (o : Obj) (tn : Addr → Nat → Heap → Prop) : Prop where
  st0 : ∀ it h, h.get? it = some o → tn it 0 h
  obj : ∀ it i h, tn it i h → ∃ ob, h.get? it = some ob ∧ ∀ v, ob.data ≠ .cell v
  keep : ∀ it i h h', tn it i h → (∀ ob, h.get? it = some ob → h'.get? it = some ob) → tn it i h'
  cur : ∀ (X : Cx) (pins : List (Addr × Obj)) (σ : L2.St) (H : Hp) (s : Shared), X.prog = P → X.w = w → Inv X pins σ H s → ok H → ∃ (Hh : Heap → Prop) (ext : List Addr), Begins u o Hh ∧ Hh s.heap ∧ (∀ b ∈ ext, H b ≠ none ∧ b < s.heap.objs.size) ∧
    ∀ (A : Around) (it : Addr), A.handled = none → it ∉ ext → Draws P w A it (it :: ext) xs.length (fun i v => ∃ x, xs[i]? = some x ∧ RelV x v) (fun i h => tn it i h ∧ Hh h)
theorem Draws.mono {prog : Program} {w : World} {A : Around} {it : Addr} {fp : List Addr} {n : Nat} {P P' : Nat → Value → Prop} {St : Nat → Heap → Prop} (D : Draws prog w A it fp n P St) (h : ∀ i v, P i v → P' i v) : Draws prog w A it fp n P' St where
  live := D.live
  frame := D.frame
  item := fun i s Q E hi st hQ => D.item i s Q E hi st fun x h' tk p => hQ x h' tk (h i x p)
  done := D.done
theorem Vals.back {xs : List V} {us : List Value} {i : Nat} {u : Value} (r : Vals xs us) (h : us[i]? = some u) : ∃ x, xs[i]? = some x ∧ RelV x u := by
  have hi : i < xs.length := by rw [r.length]; exact (List.getElem?_eq_some_iff.mp h).1
  obtain ⟨u', h1, h2⟩ := r.get (List.getElem?_eq_getElem hi)
  rw [h] at h1
  cases h1
  exact ⟨_, List.getElem?_eq_getElem hi, h2⟩
theorem src_x {P : Program} {w : World} {v : V} {xs : List V} {ok : Hp → Prop} (S : Src v xs ok) {u : Value} (r : RelV v u) : ∃ o tn, SrcX P w u xs ok o tn := by
  cases S with
  | tup a xs =>
    obtain rfl : u = Value.ref a := r
    refine ⟨{ cls := .type "tuple_iterator", data := .fields #[.ref a, .int 0 0] }, fun it i h => h.IsTupleIter it a i, fun it h e => ⟨_, e, rfl, rfl⟩, fun it i h ⟨ob, e, _, d⟩ => ⟨ob, e, fun v z => by rw [d] at z; cases z⟩, fun it i h h' st k => st.at fun o e => k o e, ?_⟩
    intro X pins σ H s hP hw I hok
    subst hP hw
    obtain ⟨its, rv, ht, _⟩ := I.tuple (SqT.of (K := X.K) hok)
    refine ⟨fun h => h.IsTuple a its.toArray, [a], begins_tuple a its.toArray, ht, fun b hb => ?_, fun A it hh hne => ?_⟩
    · obtain rfl : b = a := by simpa using hb
      exact ⟨by rw [hok]; simp, I.hok.lt hok⟩
    · have D := Draws.tuple (prog := X.prog) (w := X.w) (A := A) hh it a (fun e => hne (by simp [e])) its.toArray
      have e1 : its.toArray.size = xs.length := by simp [rv.length]
      rw [e1] at D
      exact Draws.mono D fun i v hv => Vals.back rv (by simpa using hv)
  | tupR a xs =>
    obtain rfl : u = Value.ref a := r
    refine ⟨{ cls := .type "tuple_iterator", data := .fields #[.ref a, .int 0 0] }, fun it i h => h.IsTupleIter it a i, fun it h e => ⟨_, e, rfl, rfl⟩, fun it i h ⟨ob, e, _, d⟩ => ⟨ob, e, fun v z => by rw [d] at z; cases z⟩, fun it i h h' st k => st.at fun o e => k o e, ?_⟩
    intro X pins σ H s hP hw I hok
    subst hP hw
    obtain ⟨its, rv, ht, _⟩ := I.tuple (Or.inl hok : SqT X.K H a xs)
    refine ⟨fun h => h.IsTuple a its.toArray, [a], begins_tuple a its.toArray, ht, fun b hb => ?_, fun A it hh hne => ?_⟩
    · obtain rfl : b = a := by simpa using hb
      rcases hok with hok | ⟨o, hok⟩
      · exact ⟨by rw [hok]; simp, I.hok.lt hok⟩
      · exact ⟨by rw [hok]; simp, I.hok.lt hok⟩
    · have D := Draws.tuple (prog := X.prog) (w := X.w) (A := A) hh it a (fun e => hne (by simp [e])) its.toArray
      have e1 : its.toArray.size = xs.length := by simp [rv.length]
      rw [e1] at D
      exact Draws.mono D fun i v hv => Vals.back rv (by simpa using hv)
  | lst a xs =>
    obtain rfl : u = Value.ref a := r
    refine ⟨{ cls := .type "list_iterator", data := .fields #[.ref a, .int 0 0] }, fun it i h => h.IsListIter it a i, fun it h e => ⟨_, e, rfl, rfl⟩, fun it i h ⟨ob, e, _, d⟩ => ⟨ob, e, fun v z => by rw [d] at z; cases z⟩, fun it i h h' st k => st.at fun o e => k o e, ?_⟩
    intro X pins σ H s hP hw I hok
    subst hP hw
    obtain ⟨its, rv, pl, _⟩ := I.list (SqL.of (K := X.K) hok)
    refine ⟨fun h => h.IsList a its.toArray, [a], begins_list a its.toArray, pl.isList, fun b hb => ?_, fun A it hh hne => ?_⟩
    · obtain rfl : b = a := by simpa using hb
      exact ⟨by rw [hok]; simp, I.hok.lt hok⟩
    · have D := Draws.list (prog := X.prog) (w := X.w) (A := A) hh it a (fun e => hne (by simp [e])) its.toArray
      have e1 : its.toArray.size = xs.length := by simp [rv.length]
      rw [e1] at D
      exact Draws.mono D fun i v hv => Vals.back rv (by simpa using hv)
  | txt z =>
    obtain ⟨t, rfl⟩ : ∃ t, u = Value.str z t := r
    refine ⟨{ cls := .type (strIterType z), data := .fields #[.str z t, .int 0 0] }, fun it i h => h.IsStrIter it (strIterType z) z t i, fun it h e => ⟨_, e, rfl, rfl⟩, fun it i h ⟨ob, e, _, d⟩ => ⟨ob, e, fun v z => by rw [d] at z; cases z⟩, fun it i h h' ⟨ob, e, q⟩ k => ⟨ob, k ob e, q⟩, ?_⟩
    intro X pins σ H s hP hw I hok
    subst hP hw
    refine ⟨fun _ => True, [], begins_text z t, trivial, fun b hb => (List.not_mem_nil hb).elim, fun A it hh hne => ?_⟩
    have D := Draws.text (prog := X.prog) (w := X.w) (A := A) hh it z t
    have e1 : z.cps.size = (signs z).length := by unfold signs; simp
    rw [e1] at D
    refine ⟨fun i h st => D.live i h st.1, fun i h h' st hk => ⟨D.frame i h h' st.1 hk, trivial⟩, fun i s' Q E hi st hQ => D.item i s' Q E hi st.1 fun x h' tk p q sb => hQ x h' tk ?_ ⟨q, trivial⟩ sb, fun s' Q E st hE => D.done s' Q E st.1 hE⟩
    obtain ⟨c, t', hc, rfl⟩ := p
    refine ⟨.str ⟨#[c]⟩, ?_, t', rfl⟩
    unfold signs
    rw [List.getElem?_map]
    have : z.cps.toList[i]? = some c := by simpa using hc
    rw [this]
    rfl
/-! ### zip -/
def ItZ (ok1 ok2 : Hp → Prop) (xs ys : List V) : It :=
  ⟨fun i H => ok1 H ∧ ok2 H ∧ i < xs.length ∧ i < ys.length, fun i H v H' => ∃ T x y, v = .ref T ∧ H T = none ∧ H' = upd H T (.tup [x, y]) ∧ xs[i]? = some x ∧ ys[i]? = some y,
    fun i H => ok1 H ∧ ok2 H ∧ i ≤ xs.length ∧ i ≤ ys.length ∧ (i = xs.length ∨ i = ys.length)⟩
theorem sep_of {H : Hp} {z TI TO i1 i2 : Addr} {e1 e2 : List Addr} (hn : ∀ b ∈ [z, TI, TO, i1, i2], H b = none) (h1 : ∀ b ∈ e1, H b ≠ none) (h2 : ∀ b ∈ e2, H b ≠ none)
    (d : TI ≠ z ∧ TO ≠ z ∧ TI ≠ TO ∧ TI ≠ i1 ∧ z ≠ i1 ∧ TO ≠ i1 ∧ TI ≠ i2 ∧ z ≠ i2 ∧ TO ≠ i2 ∧ i1 ≠ i2) : ZipSep2 z TI TO i1 i2 (i1 :: e1) (i2 :: e2) := by
  obtain ⟨d1, d2, d3, d4, d5, d6, d7, d8, d9, d10⟩ := d
  have n1 : ∀ b ∈ [z, TI, TO, i1, i2], b ∉ e1 := fun b hb hm => h1 b hm (hn b hb)
  have n2 : ∀ b ∈ [z, TI, TO, i1, i2], b ∉ e2 := fun b hb hm => h2 b hm (hn b hb)
  refine ⟨d1, d2, d3, d4, by simp, ?_, ?_, d7, by simp, ?_, ?_, ?_, ?_⟩
  · exact fun hm => (List.mem_cons.mp hm).elim d5 (n1 z (by simp))
  · exact fun hm => (List.mem_cons.mp hm).elim d6 (n1 TO (by simp))
  · exact fun hm => (List.mem_cons.mp hm).elim d8 (n2 z (by simp))
  · exact fun hm => (List.mem_cons.mp hm).elim d9 (n2 TO (by simp))
  · exact fun hm => (List.mem_cons.mp hm).elim d10 (n2 i1 (by simp))
  · exact fun hm => (List.mem_cons.mp hm).elim (fun e => d10 e.symm) (n1 i2 (by simp))
section
variable {P : Program} {w : World} {K : Fr} {elts : List Expr} {kk : Nat} {tpos : Pos} {u1 u2 : Value} {xs ys : List V} {ok1 ok2 : Hp → Prop} {o1 o2 : Obj} {tn1 tn2 : Addr → Nat → Heap → Prop}
theorem turn_zipG {z TI TO i1 i2 : Addr} (S1 : SrcX P w u1 xs ok1 o1 tn1) (S2 : SrcX P w u2 ys ok2 o2 tn2) (d : TI ≠ z ∧ TO ≠ z ∧ TI ≠ TO ∧ TI ≠ i1 ∧ z ≠ i1 ∧ TO ≠ i1 ∧ TI ≠ i2 ∧ z ≠ i2 ∧ TO ≠ i2 ∧ i1 ≠ i2) :
    Turn P w K (.Tuple elts kk tpos) (ItZ ok1 ok2 xs ys) [z, TI, TO, i1, i2] z (fun i h => IsZip h z TI TO .none ∧ IsTupOf2 h TI (.ref i1) (.ref i2) ∧ (∃ x y, IsTupOf2 h TO x y) ∧ tn1 i1 i h ∧ tn2 i2 i h) where
  mem := by simp
  obj := fun i h st c hc => by
    obtain ⟨hz, hTI, ⟨x, y, hTO⟩, h1, h2⟩ := st
    have e' : c = z ∨ c = TI ∨ c = TO ∨ c = i1 ∨ c = i2 := by simpa using hc
    rcases e' with q | q | q | q | q
    · rw [q]; exact ⟨_, hz, fun v q => nomatch q⟩
    · rw [q]; exact ⟨_, hTI, fun v q => nomatch q⟩
    · rw [q]; exact ⟨_, hTO, fun v q => nomatch q⟩
    · rw [q]; exact S1.obj _ _ _ h1
    · rw [q]; exact S2.obj _ _ _ h2
  keep := fun i h h' st k => by
    obtain ⟨hz, hTI, ⟨x, y, hTO⟩, h1, h2⟩ := st
    exact ⟨k z (by simp) _ hz, k TI (by simp) _ hTI, ⟨x, y, k TO (by simp) _ hTO⟩, S1.keep _ _ _ _ h1 fun o q => k i1 (by simp) o q, S2.keep _ _ _ _ h2 fun o q => k i2 (by simp) o q⟩
  item := by
    intro X hP hw hK hc i pins s σ H E I hf st hg
    obtain ⟨hz, hTI, ⟨x0, y0, hTO⟩, h1, h2⟩ := st
    obtain ⟨hk1, hk2, hl1, hl2⟩ := hg
    obtain ⟨Hh1, e1, B1, hh1, hx1, D1⟩ := S1.cur X pins σ H s hP hw I hk1
    obtain ⟨Hh2, e2, B2, hh2, hx2, D2⟩ := S2.cur X pins σ H s hP hw I hk2
    have hfn : ∀ b ∈ [z, TI, TO, i1, i2], H b = none := fun b hb => (hf b hb).1
    have S := sep_of hfn (fun b hb => (hx1 b hb).1) (fun b hb => (hx2 b hb).1) d
    have hzl : z < s.heap.objs.size := Heap.lt_size hz
    have hd : X.A.in1.handled = none := I.ok.hd hc
    refine wpAny_pyNext_zipD2_item S (D1 X.A.in1 i1 hd fun hm => (hx1 _ hm).1 (hfn i1 (by simp))) (D2 X.A.in1 i2 hd fun hm => (hx2 _ hm).1 (hfn i2 (by simp))) hz hTI hTO ⟨h1, hh1⟩ ⟨h2, hh2⟩ hl1 hl2
      fun u u2 h' tk p1 p2 z' TO' st1 st2 hT hsz hk => ?_
    obtain ⟨x, hx, ru⟩ := p1
    obtain ⟨y, hy, ru2⟩ := p2
    refine ⟨_, rfl, wpAny_letOwnedTupleGo_zip (s := { s with heap := h', toks := tk }) z' fun h'' z'' sb => ?_⟩
    have hT2 : h''.get? s.heap.objs.size = some { cls := .type "tuple", data := .seq #[u, u2] } := (sb.2 _ (Nat.ne_of_gt hzl)).trans hT
    have new : ObjOk X.prog X.w (upd H s.heap.objs.size (.tup [x, y])) h'' s.heap.objs.size (.tup [x, y]) :=
      ⟨by show 2 ≤ sizeLine; decide, [u, u2], .cons ru (.cons ru2 .nil), ⟨_, hT2, rfl, _, rfl⟩⟩
    have I1 : Inv X pins σ (upd H s.heap.objs.size (.tup [x, y])) { s with heap := h'', toks := tk } :=
      I.turnedNew (t' := tk) (ch := [z, TI, TO, i1, i2]) (fun c o hb q => (sb.2 c (fun q' => hb (by simp [q']))).trans (hk c o (fun q' => hb (by simp [q'])) (fun q' => hb (by simp [q'])) (fun q' => hb (by simp [q'])) (fun q' => hb (by simp [q'])) q)) hf (Nat.le_refl _) new
    subst hP hw
    refine ⟨.ref s.heap.objs.size, _, I1, rfl, ⟨_, x, y, rfl, I.hok.fresh (Nat.le_refl _), rfl, hx, hy⟩, ⟨z'', ?_, ⟨u, u2, ?_⟩, ?_, ?_⟩, fun c hcm => ?_⟩
    · exact (sb.2 _ d.1).trans (hk _ _ d.1 d.2.2.1 d.2.2.2.1 d.2.2.2.2.2.2.1 hTI)
    · exact (sb.2 _ d.2.1).trans TO'
    · exact S1.keep _ _ _ _ st1.1 fun o q => (sb.2 _ (Ne.symm d.2.2.2.2.1)).trans q
    · exact S2.keep _ _ _ _ st2.1 fun o q => (sb.2 _ (Ne.symm d.2.2.2.2.2.2.2.1)).trans q
    · have hlt : c < s.heap.objs.size := by
        have e' : c = z ∨ c = TI ∨ c = TO ∨ c = i1 ∨ c = i2 := by simpa using hcm
        rcases e' with q | q | q | q | q
        · rw [q]; exact hzl
        · rw [q]; exact Heap.lt_size hTI
        · rw [q]; exact Heap.lt_size hTO
        · rw [q]; obtain ⟨_, e1, _⟩ := S1.obj _ _ _ h1; exact Heap.lt_size e1
        · rw [q]; obtain ⟨_, e2, _⟩ := S2.obj _ _ _ h2; exact Heap.lt_size e2
      rw [upd_ne (Nat.ne_of_lt hlt)]
      exact (hf c hcm).1
  done := by
    intro X hP hw hK hc i pins s σ H E I hf st hg
    obtain ⟨hz, hTI, ⟨x0, y0, hTO⟩, h1, h2⟩ := st
    obtain ⟨hk1, hk2, hl1, hl2, hend⟩ := hg
    obtain ⟨Hh1, e1, B1, hh1, hx1, D1⟩ := S1.cur X pins σ H s hP hw I hk1
    obtain ⟨Hh2, e2, B2, hh2, hx2, D2⟩ := S2.cur X pins σ H s hP hw I hk2
    have hfn : ∀ b ∈ [z, TI, TO, i1, i2], H b = none := fun b hb => (hf b hb).1
    have S := sep_of hfn (fun b hb => (hx1 b hb).1) (fun b hb => (hx2 b hb).1) d
    have hd : X.A.in1.handled = none := I.ok.hd hc
    exact wpAny_pyNext_zipD2_end S (D1 X.A.in1 i1 hd fun hm => (hx1 _ hm).1 (hfn i1 (by simp))) (D2 X.A.in1 i2 hd fun hm => (hx2 _ hm).1 (hfn i2 (by simp))) hz hTI hTO ⟨h1, hh1⟩ ⟨h2, hh2⟩ hl1 hl2 hend fun h' tk hk =>
      ⟨rfl, I.turnedL (t' := tk) (ch := [z, TI, TO, i1, i2]) (fun c o hb q => hk c o (fun q' => hb (by simp [q'])) (fun q' => hb (by simp [q'])) (fun q' => hb (by simp [q'])) (fun q' => hb (by simp [q'])) q) hf⟩
  self := fun A i s Q E st h => wpAny_pyIter_zip st.1 h
end
def iZipG (ta : TA) : TI := fun σ H R => ta σ H fun vs H1 => ∃ a b xs ys ok1 ok2, vs = [a, b] ∧ Src a xs ok1 ∧ Src b ys ok2 ∧ ok1 H1 ∧ ok2 H1 ∧ R (ItZ ok1 ok2 xs ys) H1
theorem pi_zipG {X : Cx} {e e2 : Expr} {ta : TA} {p pos tpos : Pos} {elts : List Expr} {kk : Nat} (hg : Gl X "zip") (hm : X.mg "zip" = none) (ha : PA X [e, e2] ta)
    (hs : starEach [e, e2] X.env = (false, eval e X.env) :: starEach [e2] X.env := by rfl) (hpl : (backTo pos (starEach [e2] X.env)).any (·.1) = false := by rfl) :
    PI X (.Tuple elts kk tpos) (.Call (.Name "zip" p) [e, e2] [] pos) (iZipG ta) := by
  refine ⟨fun pins s σ H R I h => ?_⟩
  refine Call_ (ld_blt I hg hm PyProof.Rows.boot_zip (PyProof.Rows.callWith_type1 (thn (ha.run pos pins s σ H _ I h) fun us s1 ⟨vs, H1, I1, r1, q1⟩ => ?_) hs hpl))
  obtain ⟨a, b, xs, ys, ok1, ok2, ex, S1, S2, hk1, hk2, q⟩ := q1
  subst ex
  obtain ⟨u1, u2, rfl, ra, rb⟩ := vals2 r1
  obtain ⟨o1, tn1, X1⟩ := src_x (P := X.prog) (w := X.w) S1 ra
  obtain ⟨o2, tn2, X2⟩ := src_x (P := X.prog) (w := X.w) S2 rb
  obtain ⟨Hh1, e1, B1, hh1, hx1, _⟩ := X1.cur X pins σ H1 s1 rfl rfl I1 hk1
  obtain ⟨Hh2, e2, B2, hh2, hx2, _⟩ := X2.cur X pins σ H1 s1 rfl rfl I1 hk2
  refine zip_begins2 B1 B2 hh1 hh2 fun h' hz hTI hTO h1 h2 hsz hk => wpAny_pyIter_zip hz ?_
  have I2 : Inv X pins σ H1 { s1 with heap := h' } := I1.kept (t' := s1.toks) hk
  generalize hN : s1.heap.objs.size = N at *
  refine ⟨N + 4, [N + 4, N + 2, N + 3, N, N + 1], _, _, H1, rfl, I2, turn_zipG (i1 := N) (i2 := N + 1) X1 X2 ⟨?_, ?_, ?_, ?_, ?_, ?_, ?_, ?_, ?_, ?_⟩, ⟨hz, hTI, ⟨_, _, hTO⟩, X1.st0 _ _ h1, X2.st0 _ _ h2⟩, fun c hcm => ?_, q⟩
  all_goals first
    | (intro z; exact absurd z (by simp only [Addr] at *; omega))
    | skip
  have e' : c = N + 4 ∨ c = N + 2 ∨ c = N + 3 ∨ c = N ∨ c = N + 1 := by simpa using hcm
  have hle : N ≤ c := by
    rcases e' with z | z | z | z | z
    · rw [z]; exact Nat.le_add_right _ _
    · rw [z]; exact Nat.le_add_right _ _
    · rw [z]; exact Nat.le_add_right _ _
    · rw [z]; exact Nat.le_refl _
    · rw [z]; exact Nat.le_add_right _ _
  exact I1.fpOk (by rw [hN]; exact hle) (I1.hok.fresh (by rw [hN]; exact hle))
/-! ### enumerate -/
def ItE (ok : Hp → Prop) (xs : List V) : It :=
  ⟨fun i H => ok H ∧ i < xs.length, fun i H v H' => ∃ T x, v = .ref T ∧ H T = none ∧ H' = upd H T (.tup [.int (i : Nat), x]) ∧ xs[i]? = some x, fun i H => ok H ∧ i = xs.length⟩
section
variable {P : Program} {w : World} {K : Fr} {elts : List Expr} {kk : Nat} {tpos : Pos} {u : Value} {xs : List V} {ok : Hp → Prop} {o : Obj} {tn : Addr → Nat → Heap → Prop}
theorem turn_enumG {e it : Addr} (S : SrcX P w u xs ok o tn) (hne : e ≠ it) :
    Turn P w K (.Tuple elts kk tpos) (ItE ok xs) [e, it] e (fun i h => (∃ old, IsEnum h e it ((i : Nat) : Int) old) ∧ tn it i h) where
  mem := by simp
  obj := fun i h st b hb => by
    obtain ⟨⟨old, he⟩, h1⟩ := st
    have e' : b = e ∨ b = it := by simpa using hb
    rcases e' with z | z
    · rw [z]; exact ⟨_, he, fun v q => nomatch q⟩
    · rw [z]; exact S.obj _ _ _ h1
  keep := fun i h h' st k => let ⟨⟨old, he⟩, hi⟩ := st; ⟨⟨old, k e (by simp) _ he⟩, S.keep _ _ _ _ hi fun o q => k it (by simp) o q⟩
  item := by
    intro X hP hw hK hc i pins s σ H E I hf st hg
    obtain ⟨⟨old, he⟩, hit⟩ := st
    obtain ⟨hk, hlt⟩ := hg
    obtain ⟨Hh, ext, B, hh, hx, D⟩ := S.cur X pins σ H s hP hw I hk
    have hd : X.A.in1.handled = none := I.ok.hd hc
    have hfn : ∀ b ∈ [e, it], H b = none := fun b hb => (hf b hb).1
    have nit : it ∉ ext := fun hm => (hx _ hm).1 (hfn it (by simp))
    have hel : e < s.heap.objs.size := Heap.lt_size he
    have hil : it < s.heap.objs.size := by obtain ⟨_, q, _⟩ := S.obj _ _ _ hit; exact Heap.lt_size q
    refine wpAny_pyNext_enum_itemC (D X.A.in1 it hd nit) he ⟨hit, hh⟩ hlt hne (fun hm => (List.mem_cons.mp hm).elim hne fun hm => (hx _ hm).1 (hfn e (by simp))) fun u' h' tk p ho st' hT hsz hkp => ?_
    obtain ⟨x, hxi, ru⟩ := p
    refine ⟨_, rfl, wpAny_letOwnedTupleGo_enum (s := { s with heap := h', toks := tk + 1 }) ho fun h'' he' sb => ?_⟩
    have hT2 : h''.get? s.heap.objs.size = some { cls := .type "tuple", data := .seq #[.int i tk, u'] } := (sb.2 _ (Nat.ne_of_gt hel)).trans hT
    have new : ObjOk X.prog X.w (upd H s.heap.objs.size (.tup [.int (i : Nat), x])) h'' s.heap.objs.size (.tup [.int (i : Nat), x]) :=
      ⟨by show 2 ≤ sizeLine; decide, [.int i tk, u'], .cons ⟨_, rfl⟩ (.cons ru .nil), ⟨_, hT2, rfl, _, rfl⟩⟩
    have I1 : Inv X pins σ (upd H s.heap.objs.size (.tup [.int (i : Nat), x])) { s with heap := h'', toks := tk + 1 } :=
      I.turnedNew (ch := [e, it]) (fun b ob hb q => (sb.2 b (fun z => hb (by simp [z]))).trans (hkp b ob (fun z => hb (by simp [z])) (fun z => hb (by simp [z])) q)) hf (Nat.le_refl _) new
    subst hP hw
    refine ⟨.ref s.heap.objs.size, _, I1, rfl, ⟨_, x, rfl, I.hok.fresh (Nat.le_refl _), rfl, hxi⟩, ⟨⟨u', ?_⟩, S.keep _ _ _ _ st'.1 fun o q => (sb.2 it (Ne.symm hne)).trans q⟩, fun b hb => ?_⟩
    · have e1 : ((i + 1 : Nat) : Int) = (i : Int) + 1 := by omega
      rw [e1]; exact he'
    · have hb' : b < s.heap.objs.size := by
        have e' : b = e ∨ b = it := by simpa using hb
        rcases e' with z | z
        · rw [z]; exact hel
        · rw [z]; exact hil
      rw [upd_ne (Nat.ne_of_lt hb')]
      exact (hf b hb).1
  done := by
    intro X hP hw hK hc i pins s σ H E I hf st hg
    obtain ⟨⟨old, he⟩, hit⟩ := st
    obtain ⟨hk, rfl⟩ := hg
    obtain ⟨Hh, ext, B, hh, hx, D⟩ := S.cur X pins σ H s hP hw I hk
    have hd : X.A.in1.handled = none := I.ok.hd hc
    have hfn : ∀ b ∈ [e, it], H b = none := fun b hb => (hf b hb).1
    have nit : it ∉ ext := fun hm => (hx _ hm).1 (hfn it (by simp))
    obtain ⟨f0, f1, f2, f3, f4, f5⟩ := hf it (by simp)
    exact wpAny_pyNext_enum_endD (D X.A.in1 it hd nit) he ⟨hit, hh⟩ fun h' eb => ⟨rfl, I.turned (t' := s.toks) (fun b o hb q => eb b o hb q) f0 f1 f3 f4 f5⟩
  self := fun A i s Q E st h => let ⟨⟨_, he⟩, _⟩ := st; wpAny_pyIter_enum he h
end
theorem meets_enumerate_new1 {v : Value} {o : Obj} {H : Heap → Prop} (B : Begins v o H) :
    Meets (Builtin.«enumerate.__new__» ⟨[.type "enumerate", v], []⟩) (fun _ R s => H s.heap ∧
      R (.ok (.ret (.ref (s.heap.push o).objs.size))) { s with heap := (s.heap.push o).push { cls := .type "enumerate", data := .fields #[.none, .bool false, .ref s.heap.objs.size, rawInt 0, .none, .none] } }) :=
  .of_wp fun prog w A R s h => by
    obtain ⟨hp, g, d, tk, os⟩ := s; obtain ⟨h1, h⟩ := h
    have hsub := sub_enumerate
    have q1 : ∀ {A' : Around} {E : Value → Shared → Prop} {Q : Value → Shared → Prop}, Q (.ref hp.objs.size) ⟨hp.push o, g, d, tk, os⟩ → wpAny (model prog w) A' (pyIter v) Q E ⟨hp, g, d, tk, os⟩ :=
      fun q => B.iter prog w _ _ ⟨hp, g, d, tk, os⟩ _ h1 q
    wp_walk using q1
    refine wpAny_stack_any fun st => wpAny_pure ?_
    split
    · rename_i c _ _ _ _ _
      cases (c == Value.type "enumerate")
      · wp_walk using q1
        exact ⟨_, rfl, h⟩
      · wp_walk using q1
        exact ⟨_, rfl, h⟩
    · wp_walk using q1
      exact ⟨_, rfl, h⟩
section
variable {prog : Program} {w : World} {A : Around} {E : Value → Shared → Prop} {s : Shared}
theorem enum_begins1 {v : Value} {o : Obj} {H : Heap → Prop} {Q : Value → Shared → Prop} (B : Begins v o H) (h1 : H s.heap)
    (h : ∀ h', IsEnum h' (s.heap.objs.size + 1) s.heap.objs.size 0 .none → h'.get? s.heap.objs.size = some o → h'.objs.size = s.heap.objs.size + 2 →
      (∀ b o, s.heap.get? b = some o → h'.get? b = some o) → Q (.ref (s.heap.objs.size + 1)) { s with heap := h' }) :
    wpAny (model prog w) A (call (.type "enumerate") [v]) Q E s := by
  refine callType_new F.called_enumerate (by decide) (F.typeCall_enumerate_1 _) (F.newCall_enumerate_1 _) (fun obj => F.args_object_init_2 obj _) F.entry_enumerate_new
    (meets_enumerate_new1 B) ⟨h1, ?_⟩
  have hz : (s.heap.push o).objs.size = s.heap.objs.size + 1 := Heap.size_push ..
  show _ ∧ _
  rw [hz]
  have he : IsEnum ((s.heap.push o).push { cls := .type "enumerate", data := .fields #[.none, .bool false, .ref s.heap.objs.size, rawInt 0, .none, .none] }) (s.heap.objs.size + 1) s.heap.objs.size 0 .none := by
    have := Heap.get?_push_size (s.heap.push o) (o := { cls := .type "enumerate", data := .fields #[.none, .bool false, .ref s.heap.objs.size, rawInt 0, .none, .none] }) rfl
    rw [hz] at this; exact this
  refine ⟨⟨_, he, rfl⟩, h _ he (Heap.get?_push_of_some _ (Heap.get?_push_size _ B.free)) (by rw [Heap.size_push, hz]) fun b o x => Heap.get?_push_of_some _ (Heap.get?_push_of_some _ x)⟩
end
def iEnG (ta : TA) : TI := fun σ H R => ta σ H fun vs H1 => ∃ a xs ok, vs = [a] ∧ Src a xs ok ∧ ok H1 ∧ R (ItE ok xs) H1
theorem pi_enumG {X : Cx} {e : Expr} {ta : TA} {p pos tpos : Pos} {elts : List Expr} {kk : Nat} (hg : Gl X "enumerate") (hm : X.mg "enumerate" = none) (ha : PA X [e] ta) (hs : starEach [e] X.env = [(false, eval e X.env)] := by rfl) :
    PI X (.Tuple elts kk tpos) (.Call (.Name "enumerate" p) [e] [] pos) (iEnG ta) := by
  refine ⟨fun pins s σ H R I h => ?_⟩
  refine Call_ (ld_blt I hg hm boot_enumerate (PyProof.Rows.callWith_type1 (thn (ha.run pos pins s σ H _ I h) fun us s1 ⟨vs, H1, I1, r1, q1⟩ => ?_) hs rfl))
  obtain ⟨a, xs, ok, ex, S, hk, q⟩ := q1
  subst ex
  obtain ⟨u, rfl, ra⟩ := vals1 r1
  obtain ⟨o, tn, SX⟩ := src_x (P := X.prog) (w := X.w) S ra
  obtain ⟨Hh, ext, B, hh, hx, _⟩ := SX.cur X pins σ H1 s1 rfl rfl I1 hk
  refine enum_begins1 B hh fun h' he ho hsz hkp => wpAny_pyIter_enum he ?_
  have I2 : Inv X pins σ H1 { s1 with heap := h' } := I1.kept (t' := s1.toks) hkp
  refine ⟨s1.heap.objs.size + 1, [s1.heap.objs.size + 1, s1.heap.objs.size], _, _, H1, rfl, I2, turn_enumG SX (Nat.succ_ne_self _), ⟨⟨.none, he⟩, SX.st0 _ _ ho⟩, fun b hb => ?_, q⟩
  have e' : b = s1.heap.objs.size + 1 ∨ b = s1.heap.objs.size := by simpa using hb
  have hle : s1.heap.objs.size ≤ b := by
    rcases e' with z | z
    · rw [z]; exact Nat.le_add_right _ _
    · rw [z]; exact Nat.le_refl _
  exact I1.fpOk hle (I1.hok.fresh hle)
/-! ### their walks -/
theorem Src.same {v : V} {xs : List V} {ok : Hp → Prop} (S : Src v xs ok) {H H' : Hp} (s : Same H H') (h : ok H) : ok H' := by
  cases S with
  | tup a xs => exact s _ _ h
  | tupR a xs => exact h.elim (fun h => .inl (s _ _ h)) fun ⟨o, h⟩ => .inr ⟨o, s _ _ h⟩
  | lst a xs => exact s _ _ h
  | txt z => trivial
theorem wk_zip {v1 v2 : V} {xs ys : List V} {ok1 ok2 : Hp → Prop} {H0 : Hp} (S1 : Src v1 xs ok1) (S2 : Src v2 ys ok2) (h1 : ok1 H0) (h2 : ok2 H0) :
    Wk (ItZ ok1 ok2 xs ys) H0 (min xs.length ys.length) (fun i v H => ∃ T x y, v = V.ref T ∧ H T = some (.tup [x, y]) ∧ xs[i]? = some x ∧ ys[i]? = some y) where
  go := fun i H s hi => ⟨S1.same s h1, S2.same s h2, by omega, by omega⟩
  yld := fun i H x H' s hi hy => by
    obtain ⟨T, a, b, e, nT, eH, hx, hy⟩ := hy
    subst eH
    exact ⟨same_upd nT, T, a, b, e, upd_same, hx, hy⟩
  stop := fun H s => ⟨S1.same s h1, S2.same s h2, Nat.min_le_left _ _, Nat.min_le_right _ _, by omega⟩
theorem wk_enum {v : V} {xs : List V} {ok : Hp → Prop} {H0 : Hp} (S : Src v xs ok) (h : ok H0) :
    Wk (ItE ok xs) H0 xs.length (fun i v H => ∃ T x, v = V.ref T ∧ H T = some (.tup [.int (i : Nat), x]) ∧ xs[i]? = some x) where
  go := fun i H s hi => ⟨S.same s h, hi⟩
  yld := fun i H x H' s hi hy => by
    obtain ⟨T, a, e, nT, eH, hx⟩ := hy
    subst eH
    exact ⟨same_upd nT, T, a, e, upd_same, hx⟩
  stop := fun H s => ⟨S.same s h, rfl⟩
theorem wk_str {z : Str} {H0 : Hp} : Wk (Its z) H0 z.cps.size (fun i v _ => ∃ c, z.cps[i]? = some c ∧ v = V.str ⟨#[c]⟩) where
  go := fun i H s hi => hi
  yld := fun i H x H' s hi hy => by
    obtain ⟨e, y⟩ := hy
    subst e
    exact ⟨Same.refl _, y⟩
  stop := fun H s => Nat.le_refl _
end Kn
/-! K2 -/
set_option maxHeartbeats 2000000
namespace Kn
open PySem PySem.Spec PyProof.Rows L2
/-- the built-in names are not bound by the module -/
structure Bt (mg : Str → Option Value) : Prop where
  len : mg "len" = none
  tuple : mg "tuple" = none
  list : mg "list" = none
  range : mg "range" = none
  sorted : mg "sorted" = none
  set : mg "set" = none
  enumerate : mg "enumerate" = none
  zip : mg "zip" = none
  isinstance : mg "isinstance" = none
  all : mg "all" = none
  int : mg "int" = none
  str : mg "str" = none
  bool : mg "bool" = none
  dict : mg "dict" = none
  abs : mg "abs" = none
  repr : mg "repr" = none
  super : mg "super" = none
section
variable {X : Cx}
theorem callTupOf (K : Fr) (hK : X.K = K := by rfl) : CallR X (.type "tuple") (fun xs H Q => ∃ p ys, xs = [.ref p] ∧ ((SqL K H p ys ∧ ∀ l, H l = none → Q (.ref l) (upd H l (.tup ys))) ∨ (SqT K H p ys ∧ Q (.ref p) H))) := by subst hK; exact call_tuple_of
theorem callListOf (K : Fr) (hK : X.K = K := by rfl) : CallR X (.type "list") (fun xs H Q => ∃ p ys, xs = [.ref p] ∧ (SqL K H p ys ∨ SqT K H p ys) ∧ ∀ l, H l = none → Q (.ref l) (upd H l (.lst ys))) := by subst hK; exact call_list_of
theorem callLenSeq (K : Fr) (hK : X.K = K := by rfl) : CallR X (.builtin "len") (fun xs H Q => ∃ p ys, xs = [.ref p] ∧ (SqL K H p ys ∨ SqT K H p ys) ∧ Q (.int ys.length) H) := by subst hK; exact call_len_seq
theorem crAll (K : Fr) (hc : X.calm = true := by rfl) (hK : X.K = K := by rfl) : CallR X (.builtin "all") (rAll K) := by subst hK; exact cr_all hc
theorem opEqD (K : Fr) (hu : X.A.units + 64 < cLine) (hK : X.K = K := by rfl) : OpR X (compareOp .Eq) (rEqD K) := by subst hK; exact op_eqD hu
theorem opNeD (K : Fr) (hu : X.A.units + 64 < cLine) (hK : X.K = K := by rfl) : OpR X (compareOp .NotEq) (rNeD K) := by subst hK; exact op_neD hu
theorem opInSeq (K : Fr) (hK : X.K = K := by rfl) : OpR X (compareOp .In) (rIn K false) := by subst hK; exact op_in_seq
theorem opNotInSeq (K : Fr) (hK : X.K = K := by rfl) : OpR X (compareOp .NotIn) (rIn K true) := by subst hK; exact op_notIn_seq
theorem slL (K : Fr) (hK : X.K = K := by rfl) : SlR X (rSlL K) := by subst hK; exact sl_list
theorem slT (K : Fr) (hK : X.K = K := by rfl) : SlR X (rSlT K) := by subst hK; exact sl_tup
theorem pg_tupK (K : Fr) {es : List Expr} {k : Nat} {t : TGs} {n : Nat} {pos : Pos} (hc : X.calm = true) (h : PGs X es t)
    (hn : (assignEach es X.env).length = n := by rfl) (hst : (assignEach es X.env).findIdx? (·.1) = none := by rfl) (hK : X.K = K := by rfl) : PG X (.Tuple es k pos) (gTup K n t) := by subst hK; exact pg_tup hc h hn hst
theorem pa_starK (K : Fr) {e : Expr} {es : List Expr} {te : TE} {t : TA} {p : Pos} (he : PE X e te) (hr : PA X es t) (hs : starEach (.Starred e p :: es) X.env = (true, eval e X.env) :: starEach es X.env := by rfl) (hK : X.K = K := by rfl) : PA X (.Starred e p :: es) (StX.tStar K te t) := by subst hK; exact StX.pa_star he hr hs
/-- a module's constant -/
theorem pe_globK {x : Str} {v : V} {u : Value} {pos : Pos} (h : X.mg x = some u ∧ RelV v u) (hg : Gl X x) (hd : (x == ("__debug__" : Str)) = false := by decide) : PE X (.Name x pos) (tC v) := pe_glob hg h.1 h.2 hd
end
/-! ### {k: v}, k a tuple of ints and texts -/
def tDisp1T (tk tv : TE) : TE := fun σ H Q => ∀ p, H p = none → tk σ (upd H p (.dT [])) fun x H1 => tv σ H1 fun y H2 => H2 p = some (.dT []) ∧ ∃ (b : Addr) (k : List Key), x = .ref b ∧ H2 b = some (.tup (k.map kV)) ∧ Q (.ref p) (upd H2 p (.dT [(k, y)]))
theorem pe_disp1T {X : Cx} {pos : Pos} {k v : Expr} {tk tv : TE} (hk : PE X k tk) (hv : PE X v tv) (hu : X.A.units + 1 < cLine) : PE X (.Dict [some k] [v] pos) (tDisp1T tk tv) := by
  refine ⟨fun pins s σ H Q I q => ?_⟩
  have hn := I.hok.fresh (Nat.le_refl s.heap.objs.size)
  have I1 := I.laid (a := s.heap.objs.size) (o := .dT []) (h' := s.heap.push { cls := .type "dict", data := .dict #[] }) (t' := s.toks) (fun _ _ q => Heap.get?_push_of_some _ q) (Nat.le_refl _) (dt_empty s.heap I.big)
  rw [arm_eval_Dict, zip_pairTrees [some k] [v] X.env pos rfl rfl, dictDisplay_pairs (pairTrees [some k] [v] X.env pos) (by intro e; cases e) (by show 1 < 17; decide)]
  refine wpAny_bind (wpAny_standAt (wpAny_bind (wpAny_subDictH (knd := tupleKind (mixKind X.prog X.w)) (show X.A.units < cLine from Nat.lt_of_succ_lt hu) (by show 1 ≤ 15; decide) (pairTrees_cons_walk ?_))))
  refine thn (hk.run pins _ σ _ _ I1 (q _ hn)) fun u s1 ⟨x, H1, I2, rx, q1⟩ => thn (hv.run pins s1 σ H1 _ I2 q1) fun u2 s2 ⟨y, H2, I3, ry, e, b, kk, ex, eb, q2⟩ => pairTrees_nil_walk ?_
  subst ex
  obtain rfl : u = Value.ref b := rx
  obtain ⟨z, hd, xs, rel, dd⟩ := dt_of I3.hok e
  cases rel
  refine ⟨[(kk, b, u2)], ⟨rfl, rfl, key_of I3.hok eb, trivial⟩, dd, fun h' tk2 dd' hs => wpAny_pure ⟨.ref s.heap.objs.size, _, ?_, rfl, q2⟩⟩
  have e1 : storedAllH [] [(kk, b, u2)] = [(kk, b, u2)] := rfl
  rw [e1] at dd'
  obtain ⟨ob, es, ep, hq, h2, h3, h4, _, h5⟩ := dd'
  refine d_write I3 (by rw [e]; exact True.intro) hs ⟨ob, hq⟩ ⟨by show 1 ≤ sizeLine; decide, hd, _, .cons ⟨rfl, ?_, ry⟩ .nil, ob, es, ep, hq, h2, h3, h4, h5⟩
  rw [upd_ne (ne_of eb e (fun z => nomatch z))]
  exact eb
end Kn
/-! R1 -/
set_option maxHeartbeats 2000000
namespace L2
open PySem PySem.Spec PyProof.Rows
theorem compTurnT_out (kx vx t0 i0 t1 i1 : Expr) (ifs0 ifs1 : List Expr) (scope : Scope) (pos : Pos) (it : Value) (D : Addr) (env : Env) :
    compTurn (.DictComp kx vx [⟨t0, i0, ifs0, 0⟩, ⟨t1, i1, ifs1, 0⟩] scope pos) 0 it (.ref D) env = (do
      standAt i0.pos
      match ← pyNext it with
      | none => pure (.done .next)
      | some v =>
        letOwnedTupleGo t0 it v
        assign t0 env v
        let mut ok := true
        for c in ifs0 do
          if ok then ok ← isTrue c env (eval c env)
        if ok then
          let x ← eval i1 env
          standAt i1.pos
          let x ← foldedSetIterable i1 env x
          let _ ← runOwn (.compStart (.DictComp kx vx [⟨t0, i0, ifs0, 0⟩, ⟨t1, i1, ifs1, 0⟩] scope pos) 1 (← holding [x] (pyIter x)) (.ref D) env) env
        again (.compLoop (.DictComp kx vx [⟨t0, i0, ifs0, 0⟩, ⟨t1, i1, ifs1, 0⟩] scope pos) 0 it (.ref D) env)) := by rfl
theorem compTurnT_in (kx vx t0 i0 t1 i1 : Expr) (ifs0 ifs1 : List Expr) (scope : Scope) (pos : Pos) (it : Value) (D : Addr) (env : Env) :
    compTurn (.DictComp kx vx [⟨t0, i0, ifs0, 0⟩, ⟨t1, i1, ifs1, 0⟩] scope pos) 1 it (.ref D) env = (do
      standAt i1.pos
      match ← pyNext it with
      | none => pure (.done .next)
      | some v =>
        letOwnedTupleGo t1 it v
        assign t1 env v
        let mut ok := true
        for c in ifs1 do
          if ok then ok ← isTrue c env (eval c env)
        if ok then
          (do
            let kv ← eval kx env
            let vv ← holding [kv] (eval vx env)
            standAt { kx.pos with endLine := vx.pos.endLine, endCol := vx.pos.endCol }
            holding [kv, vv] (dictSet D kv vv))
        again (.compLoop (.DictComp kx vx [⟨t0, i0, ifs0, 0⟩, ⟨t1, i1, ifs1, 0⟩] scope pos) 1 it (.ref D) env)) := by rfl
section
variable {prog : Program} {w : World} {A : Around} {R : Result → Shared → Prop} {s : Shared} {kx vx t0 i0 t1 i1 : Expr} {ifs0 ifs1 : List Expr} {scope : Scope} {pos : Pos} {it : Value} {D : Addr} {env : Env}
theorem compLoopT_out (hs : ∀ x, foldedSetIterable i1 env x = pure x) (I : Nat → Shared → Prop)
    (turn : ∀ n s, I n s → wpAny (model prog w) A (pyNext it) (fun r s₁ => match r with
      | none => R (.ok .next) s₁
      | some v => wpAny (model prog w) A (letOwnedTupleGo t0 it v) (fun _ s₁' => wpAny (model prog w) A (assign t0 env v) (fun _ s₂ =>
          wpAny (model prog w) A (forIn ifs0 true fun c r => if r = true then do let ok ← isTrue c env (eval c env); pure (ForInStep.yield ok) else pure (ForInStep.yield r)) (fun ok s₃ =>
            if ok = true then wpAny (model prog w) A (eval i1 env) (fun x s₄ => wpAny (model prog w) A (pyIter x) (fun it1 s₅ =>
              codeAny (model prog w) A (.compStart (.DictComp kx vx [⟨t0, i0, ifs0, 0⟩, ⟨t1, i1, ifs1, 0⟩] scope pos) 1 it1 (.ref D) env) (fun r s' => match r with
                | .ok _ => ∃ m, m < n ∧ I m s'
                | .error _ => False) s₅) (notedBy (model prog w) A env fun e s' => R (.error e) s') s₄) (notedBy (model prog w) A env fun e s' => R (.error e) s') s₃
            else ∃ m, m < n ∧ I m s₃) (notedBy (model prog w) A env fun e s' => R (.error e) s') s₂) (notedBy (model prog w) A env fun e s' => R (.error e) s') s₁') (notedBy (model prog w) A env fun e s' => R (.error e) s') s₁) (notedBy (model prog w) A env fun e s' => R (.error e) s') s)
    (n : Nat) (h : I n s) :
    codeAny (model prog w) A (.compLoop (.DictComp kx vx [⟨t0, i0, ifs0, 0⟩, ⟨t1, i1, ifs1, 0⟩] scope pos) 0 it (.ref D) env) R s := by
  refine codeAny_loop rfl I (fun n s hI => ?_) n h
  show wpAny _ A ((compTurn (.DictComp kx vx [⟨t0, i0, ifs0, 0⟩, ⟨t1, i1, ifs1, 0⟩] scope pos) 0 it (.ref D) env).onRaise (fun x => do noteFrame x env; theTreesLotGoes x)) _ _ s
  refine wpAny_noted ?_
  rw [compTurnT_out]
  refine wpAny_bind (wpAny_standAt (wpAny_bind (wpAny_mono (turn n s hI) (fun r s₁ h₁ => ?_) fun _ _ h' => h')))
  cases r with
  | none => exact wpAny_pure h₁
  | some v =>
    refine wpAny_bind (wpAny_mono h₁ (fun _ s₁' h₁' => ?_) fun _ _ h' => h')
    refine wpAny_bind (wpAny_mono h₁' (fun _ s₂ h₂ => wpAny_bind (wpAny_mono h₂ (fun ok s₃ h₃ => ?_) fun _ _ h' => h')) fun _ _ h' => h')
    cases ok with
    | false => exact wpAny_pure ⟨rfl, h₃⟩
    | true =>
      refine wpAny_bind (wpAny_mono h₃ (fun x s₄ h₄ => ?_) fun _ _ h' => h')
      refine wpAny_bind (wpAny_standAt (wpAny_bind (wpAny_of_eq (hs x) (wpAny_bind (wpAny_holding (wpAny_mono h₄ (fun it1 s₅ h₅ => ?_) fun _ _ h' => h'))))))
      refine wpAny_bind (wpAny_runOwn ?_)
      rw [Around.mark_none]
      refine codeAny_mono h₅ fun r s' hr => ?_
      cases r with
      | ok f =>
        first
          | exact wpAny_pure ⟨rfl, hr⟩
          | exact wpAny_bind (wpAny_pure (wpAny_pure ⟨rfl, hr⟩))
      | error e => exact hr.elim
/-- the loop of the second -/
theorem compLoopT_in (I : Nat → Shared → Prop)
    (turn : ∀ n s, I n s → wpAny (model prog w) A (pyNext it) (fun r s₁ => match r with
      | none => R (.ok .next) s₁
      | some v => wpAny (model prog w) A (letOwnedTupleGo t1 it v) (fun _ s₁' => wpAny (model prog w) A (assign t1 env v) (fun _ s₂ =>
          wpAny (model prog w) A (forIn ifs1 true fun c r => if r = true then do let ok ← isTrue c env (eval c env); pure (ForInStep.yield ok) else pure (ForInStep.yield r)) (fun ok s₃ =>
            if ok = true then wpAny (model prog w) A (eval kx env) (fun kv s₄ => wpAny (model prog w) A (eval vx env) (fun vv s₅ =>
              wpAny (model prog w) A (dictSet D kv vv) (fun _ s₆ => ∃ m, m < n ∧ I m s₆) (notedBy (model prog w) A env fun e s' => R (.error e) s') s₅) (notedBy (model prog w) A env fun e s' => R (.error e) s') s₄) (notedBy (model prog w) A env fun e s' => R (.error e) s') s₃
            else ∃ m, m < n ∧ I m s₃) (notedBy (model prog w) A env fun e s' => R (.error e) s') s₂) (notedBy (model prog w) A env fun e s' => R (.error e) s') s₁') (notedBy (model prog w) A env fun e s' => R (.error e) s') s₁) (notedBy (model prog w) A env fun e s' => R (.error e) s') s)
    (n : Nat) (h : I n s) :
    codeAny (model prog w) A (.compLoop (.DictComp kx vx [⟨t0, i0, ifs0, 0⟩, ⟨t1, i1, ifs1, 0⟩] scope pos) 1 it (.ref D) env) R s := by
  refine codeAny_loop rfl I (fun n s hI => ?_) n h
  show wpAny _ A ((compTurn (.DictComp kx vx [⟨t0, i0, ifs0, 0⟩, ⟨t1, i1, ifs1, 0⟩] scope pos) 1 it (.ref D) env).onRaise (fun x => do noteFrame x env; theTreesLotGoes x)) _ _ s
  refine wpAny_noted ?_
  rw [compTurnT_in]
  refine wpAny_bind (wpAny_standAt (wpAny_bind (wpAny_mono (turn n s hI) (fun r s₁ h₁ => ?_) fun _ _ h' => h')))
  cases r with
  | none => exact wpAny_pure h₁
  | some v =>
    refine wpAny_bind (wpAny_mono h₁ (fun _ s₁' h₁' => ?_) fun _ _ h' => h')
    refine wpAny_bind (wpAny_mono h₁' (fun _ s₂ h₂ => wpAny_bind (wpAny_mono h₂ (fun ok s₃ h₃ => ?_) fun _ _ h' => h')) fun _ _ h' => h')
    cases ok with
    | false => exact wpAny_pure ⟨rfl, h₃⟩
    | true =>
      exact wpAny_bind (wpAny_bind (wpAny_mono h₃ (fun kv s₄ h₄ => wpAny_bind (wpAny_holding (wpAny_mono h₄ (fun vv s₅ h₅ => wpAny_bind (wpAny_standAt (wpAny_holding (wpAny_mono h₅ (fun _ s₆ h₆ => wpAny_pure ⟨rfl, h₆⟩) fun _ _ h' => h')))) fun _ _ h' => h'))) fun _ _ h' => h'))
/-- the second clause's start -/
theorem compStartT_ok (h0 : codeAny (model prog w) A (.compLoop (.DictComp kx vx [⟨t0, i0, ifs0, 0⟩, ⟨t1, i1, ifs1, 0⟩] scope pos) 1 it (.ref D) env) R s)
    (h : wpAny (model prog w) A (pyIter it) (fun it' s' => codeAny (model prog w) A (.compLoop (.DictComp kx vx [⟨t0, i0, ifs0, 0⟩, ⟨t1, i1, ifs1, 0⟩] scope pos) 1 it' (.ref D) env) R s')
      (notedBy (model prog w) A env fun x s' => R (.error x) s') s) :
    codeAny (model prog w) A (.compStart (.DictComp kx vx [⟨t0, i0, ifs0, 0⟩, ⟨t1, i1, ifs1, 0⟩] scope pos) 1 it (.ref D) env) R s := by
  refine codeAny_of_tree ?_
  show wpAny _ _ ((compStart (.DictComp kx vx [⟨t0, i0, ifs0, 0⟩, ⟨t1, i1, ifs1, 0⟩] scope pos) 1 it (.ref D) env).onRaise (fun x => do noteFrame x env; standAt theWindowsPlace)) _ _ s
  refine wpAny_notedAt ?_
  unfold compStart
  show wpAny _ _ (ask >>= _) _ _ s
  refine wpAny_bind (wpAny_askSetting (wpAny_ite ?_))
  split
  · first
      | exact wpAny_bind (wpAny_pure (wpAny_pure (And.intro rfl h0)))
      | exact wpAny_pure (And.intro rfl h0)
  · first
      | exact wpAny_bind (wpAny_rule (wpAny_bind (wpAny_standAt (wpAny_bind (wpAny_mono h (fun it' s' h' => wpAny_pure (And.intro rfl h')) fun _ _ x => x)))))
      | (refine wpAny_bind (wpAny_rule ?_); show wpAny _ _ (standAt i1.pos >>= _) _ _ s; exact wpAny_bind (wpAny_standAt (wpAny_bind (wpAny_mono h (fun it' s' h' => wpAny_pure (And.intro rfl h')) fun _ _ x => x))))

end
theorem d_dictSetT {X : Cx} {pins : List (Addr × Obj)} {σ : St} {H : Hp} {s : Shared} {E : Value → Shared → Prop} {D b : Addr} {kvs : List (List Key × V)} {k : List Key} {v : V} {u r : Value} {Q : Unit → Shared → Prop} (hu : X.A.units + 1 < cLine) (I : Inv X pins σ H s) (hD : H D = some (.dT kvs)) (hz : kvs.length < sizeLine)
    (eb : H b = some (.tup (k.map kV))) (ry : RelV (.ref b) u) (rv : RelV v r) (h : ∀ s', Inv X pins σ (upd H D (.dT (putK kvs k v))) s' → Q () s') : wpAny (model X.prog X.w) X.A (dictSet D u r) Q E s := by
  cases (show u = Value.ref b from ry)
  obtain ⟨z, hd, xs, rel, dd⟩ := dt_of I.hok hD
  have hzv : xs.length ≤ sizeLine := by rw [← Paired.length rel]; exact z
  have hl : (putK kvs k v).length ≤ sizeLine := by have := length_putK kvs k v; omega
  refine wpAny_dictSet_heap (hsz := hzv) (knd := tupleKind (mixKind X.prog X.w)) (show X.A.units < cLine from Nat.lt_of_succ_lt hu) (key_of I.hok eb) dd fun h' dd' hs => h _ ?_
  obtain ⟨q, es, ep, hq, h2, h3, h4, _, h5⟩ := dd'
  refine d_write I (by rw [hD]; exact True.intro) hs ⟨q, hq⟩ ⟨hl, hd, _, (rel.put k eb rv).keeps fun c ys ec => ?_, q, es, ep, hq, h2, h3, h4, h5⟩
  rw [upd_ne (ne_of ec hD (fun z => nomatch z))]
  exact ec
section
variable {X : Cx}
/-- {k: v for target in iter if ..}, keys tuples -/
def tDcT (wi : TI) (g : TG) (tt : TT) (tk tv : TE) (vs : List Nat) : TE := fun σ H Q => wi σ H fun J H1 => ∀ D, H1 D = none → ∃ W : Nat → Nat → Hp → Prop, (∃ m, W 0 m (upd H1 D (.dT []))) ∧ ∀ i m H, W i m H →
  (J.stop i H ∧ Q (.ref D) H) ∨ (J.go i H ∧ ∃ Nx : Hp → Prop, (∀ H', Nx H' → ∃ m', m' < m ∧ W (i + 1) m' H') ∧ ∀ x H', J.yld i H x H' → g x (wipe σ vs) H' fun σ2 H2 => wipe σ2 vs = wipe σ vs ∧ tt σ2 H2 fun b H3 =>
    if b = true then tk σ2 H3 fun y H4 => tv σ2 H4 fun z H5 => ∃ (kvs : List (List Key × V)) (k : List Key) (bk : Addr), y = .ref bk ∧ H5 bk = some (.tup (k.map kV)) ∧ H5 D = some (.dT kvs) ∧ kvs.length < sizeLine ∧ Nx (upd H5 D (.dT (putK kvs k z))) else Nx H3)
theorem dcT_core {pins : List (Addr × Obj)} {s : Shared} {σ : St} {H : Hp} {Q : VK} {kx vx tg iter : Expr} {ifs : List Expr} {scope : Scope} {own : List (Str × Nat)} {pos pos' : Pos} {wi : TI} {g : TG} {tt : TT} {tk tv : TE} {use : Option (Value → Sem Unit)} {Qf : Value → Shared → Prop}
    (hu : X.A.units + 1 < cLine) (hc : X.calm = true) (hN : X.N.Nodup) (I : Inv X pins σ H s) (hi : PI X tg iter wi) (ok : BlkOk X.N X.env.scope scope own)
    (hg : ∀ (s : Shared) (H : Hp) (C : Addr) (cl : List (Str × Addr)) (fp : List Addr), PG (X.blk s H scope (compEnvC scope cl C X.env) fp) tg g) (ht : ∀ (s : Shared) (H : Hp) (C : Addr) (cl : List (Str × Addr)) (fp : List Addr), PTs (X.blk s H scope (compEnvC scope cl C X.env) fp) ifs tt)
    (hk : ∀ (s : Shared) (H : Hp) (C : Addr) (cl : List (Str × Addr)) (fp : List Addr), PE (X.blk s H scope (compEnvC scope cl C X.env) fp) kx tk)
    (he : ∀ (s : Shared) (H : Hp) (C : Addr) (cl : List (Str × Addr)) (fp : List Addr), PE (X.blk s H scope (compEnvC scope cl C X.env) fp) vx tv) (hs : ∀ x, foldedSetIterable iter X.env x = pure x)
    (h : tDcT wi g tt tk tv (own.map (·.2)) σ H Q)
    (hRR : ∀ D C s' m H', Inv X pins σ H' s' → Q (.ref D) H' → s'.heap.Ns C m → FpOk X pins H' C → compPost (model X.prog X.w) X.A X.xe use Qf (.ref D) C (.ok .next) s') :
    wpAny (model X.prog X.w) X.A (comprehension (.DictComp kx vx [⟨tg, iter, ifs, 0⟩] scope pos) scope X.env pos' newDict false (eval iter X.env) use) Qf X.xe s := by
  have hfree : ∀ y ∈ scope.names, y.2 = .free → ∃ c, X.env.cells.lookup y.1 = some c := fun y hy e => by
    rcases ok.free y hy e with k | k
    · exact I.ok.has _ (.inl k)
    · exact I.ok.has _ (.inr k)
  refine wpAny_comprehension_free (use := use) rfl hs (closure_ok hfree) ok.kind (fun y hy e => by rw [ok.uniq y hy, e])
    (thn (hi.run pins s σ H _ I h) fun xv s1 hx => thn hx fun itv s2 h2 => ?_)
  obtain ⟨it, fp, tn, J, H2, e, I2, T, st2, f2, q⟩ := h2
  subst e
  refine wpAny_newObj_type (newEnv_comp ?_)
  generalize hD : s2.heap.objs.size = D
  have hDn : H2 D = none := I2.hok.fresh (Nat.le_of_eq hD)
  obtain ⟨W, ⟨m0, w0⟩, turn⟩ := q D hDn
  -- the new list
  generalize hs3 : ({ s2 with heap := s2.heap.push { cls := .type "dict", data := .dict #[] } } : Shared) = s3
  have I3 : Inv X pins σ (upd H2 D (.dT [])) s3 := by
    rw [← hs3]
    refine I2.laid (t' := s2.toks) (fun b o e => Heap.get?_push_of_some _ e) (Nat.le_of_eq hD) ?_
    rw [← hD]
    exact dt_empty s2.heap I2.big
  have h3 : s3.heap = s2.heap.push { cls := .type "dict", data := .dict #[] } := by rw [← hs3]
  have sz : ∀ b ∈ fp, b < s2.heap.objs.size := fun b hb => by
    obtain ⟨o, e, _⟩ := T.obj _ _ st2 b hb
    exact Heap.lt_size e
  have f3 : ∀ b ∈ fp, FpOk X pins (upd H2 D (.dT [])) b ∧ b < s3.heap.objs.size := fun b hb => by
    have hlt := sz b hb
    refine ⟨⟨?_, (f2 b hb).2⟩, by rw [h3, Heap.size_push]; exact Nat.lt_succ_of_lt hlt⟩
    rw [upd_ne (by rw [← hD]; exact Nat.ne_of_lt hlt)]
    exact (f2 b hb).1
  have st3 : tn 0 s3.heap := T.keep _ _ _ st2 fun b _ o e => by rw [h3]; exact Heap.get?_push_of_some _ e
  have I4 := block_start I3 ok hN f3
  have pg := hg s3 (upd H2 D (.dT [])) s3.heap.objs.size (cellsFrom (s3.heap.objs.size + 1) scope.names (cloFrom X.env.cells scope.names [])) fp
  have pt := ht s3 (upd H2 D (.dT [])) s3.heap.objs.size (cellsFrom (s3.heap.objs.size + 1) scope.names (cloFrom X.env.cells scope.names [])) fp
  have pk := hk s3 (upd H2 D (.dT [])) s3.heap.objs.size (cellsFrom (s3.heap.objs.size + 1) scope.names (cloFrom X.env.cells scope.names [])) fp
  have pe := he s3 (upd H2 D (.dT [])) s3.heap.objs.size (cellsFrom (s3.heap.objs.size + 1) scope.names (cloFrom X.env.cells scope.names [])) fp
  show codeAny _ _ (.compStart (.DictComp kx vx [⟨tg, iter, ifs, 0⟩] scope pos) 0 (.ref it) (.ref D) (compEnvC scope (cellsFrom (s3.heap.objs.size + 1) scope.names (cloFrom X.env.cells scope.names [])) s3.heap.objs.size X.env)) (compPost (model X.prog X.w) X.A X.xe use Qf (.ref D) s3.heap.objs.size) { s3 with heap := pushCells (s3.heap.push { cls := .type "dict", data := .dict #[] }) scope.names }
  have nfp : ∀ b ∈ fp, (upd H2 D (.dT [])) b = none := fun b hb => (f3 b hb).1.1
  generalize hce : compEnvC scope (cellsFrom (s3.heap.objs.size + 1) scope.names (cloFrom X.env.cells scope.names [])) s3.heap.objs.size X.env = ce at I4 pg pt pk pe ⊢
  have cL : ce.locals = s3.heap.objs.size := by subst hce; rfl
  generalize hH3 : upd H2 D (.dT []) = H3 at I3 I4 pg pt pk pe w0 nfp f3
  generalize hs4 : ({ s3 with heap := pushCells (s3.heap.push { cls := .type "dict", data := .dict #[] }) scope.names } : Shared) = s4 at I4 ⊢
  have st4 : tn 0 s4.heap := T.keep _ _ _ st3 fun b _ o e => by rw [← hs4]; exact pushCells_keeps _ _ _ _ (Heap.get?_push_of_some _ e)
  have stat : ∀ {σ' : St} {H' : Hp} {s' : Shared}, Inv (X.blk s3 H3 scope ce fp) [] σ' H' s' → (∀ b ∈ fp, H' b = none) → ∀ b ∈ fp, FpOk (X.blk s3 H3 scope ce fp) [] H' b := fun {σ' H' s'} I' hn b hb =>
    ⟨hn b hb, (I'.ok.exf b hb).1, I'.ok.exfs b hb, .inl hb, fun x c e => (I'.ok.exf b hb).2 x c e, fun p hp => absurd (show p ∈ ([] : List (Addr × Obj)) ++ [] from hp) (by simp)⟩
  have loop : codeAny (model X.prog X.w) X.A (.compLoop (.DictComp kx vx [⟨tg, iter, ifs, 0⟩] scope pos) 0 (.ref it) (.ref D) ce) (compPost (model X.prog X.w) X.A X.xe use Qf (.ref D) s3.heap.objs.size) s4 := by
    refine compLoop_anyD (fun n s' => ∃ i H', Inv (X.blk s3 H3 scope ce fp) [] (wipe σ (own.map (·.2))) H' s' ∧ tn i s'.heap ∧ (∀ b ∈ fp, H' b = none) ∧ W i n H') ?_ m0 ⟨0, H3, I4, st4, nfp, w0⟩
    rintro n s5 ⟨i, H5, I5, st5, n5, w5⟩
    rcases turn i n H5 w5 with ⟨stop, qq⟩ | ⟨go, Nx, hNx, step⟩
    · have td := T.done (X.blk s3 H3 scope ce fp) rfl rfl rfl hc i [] s5 _ H5 (fun _ _ => False) I5 (stat I5 n5) st5 stop
      refine thnF td fun r s6 ⟨hr, I6⟩ => ?_
      subst hr
      -- back in the def's context
      have I7 : Inv X pins σ H5 s6 := I3.call' (ch := fp) I6.os I6.base I6.hok I6.bare fun b hb => ⟨(f3 b hb).1.2.2.2.1, (f3 b hb).1.2.1, (f3 b hb).1.2.2.2.2.1, (f3 b hb).1.2.2.2.2.2⟩
      have nC : H5 s3.heap.objs.size = none := by
        have z : H5 ce.locals = none := I6.free
        rw [cL] at z
        exact z
      obtain ⟨m, hn, _⟩ := I6.loc
      have hn : s6.heap.Ns ce.locals m := hn
      rw [cL] at hn
      exact hRR D s3.heap.objs.size s6 m H5 I7 qq hn (I3.fpOk (Nat.le_refl _) nC)
    · have ti := T.item (X.blk s3 H3 scope ce fp) rfl rfl rfl hc i [] s5 _ H5 (fun _ _ => False) I5 (stat I5 n5) st5 go
      refine thnF ti fun r s6 ⟨u, hr, h6⟩ => ?_
      subst hr
      refine thnF h6 fun _ s7 ⟨x, H7, I7, r7, y7, st7, n7⟩ => ?_
      have I7' := I7.pinned (stat I7 n7) (T.obj _ _ st7)
      refine thnF (pg.run _ s7 _ H7 x u _ I7' r7 (step x H7 y7)) fun _ s8 ⟨σ8, H8, I8, hw8, q8⟩ => ?_
      refine thnF (pt.run _ s8 σ8 H8 _ I8 q8) fun b s9 ⟨H9, I9, q9⟩ => ?_
      -- the turn's end
      have fin : ∀ {s' : Shared} {H' : Hp}, Inv (X.blk s3 H3 scope ce fp) ([] ++ pinsAt fp s7.heap) σ8 H' s' → Nx H' → ∃ m, m < n ∧ ∃ i H', Inv (X.blk s3 H3 scope ce fp) [] (wipe σ (own.map (·.2))) H' s' ∧ tn i s'.heap ∧ (∀ b ∈ fp, H' b = none) ∧ W i m H' := fun {s' H'} I' nx => by
        obtain ⟨m', hm, w'⟩ := hNx H' nx
        have pin' : ∀ b ∈ fp, ∀ o, s7.heap.get? b = some o → s'.heap.get? b = some o ∧ H' b = none := fun b hb o e =>
          let z := I'.pin (b, o) (List.mem_append_right _ (List.mem_append_right _ (mem_pinsAt hb e)))
          ⟨z.1, z.2.1⟩
        have hl : (wipe σ (own.map (·.2))).length = σ8.length := by rw [← hw8, wipe_length]
        refine ⟨m', hm, i + 1, H', (I'.unpinned (pins := [])).weak hl (fun j v e => ?_), T.keep _ _ _ st7 fun b hb o e => (pin' b hb o e).1, fun b hb => ?_, w'⟩
        · rw [← hw8] at e
          exact (wipe_some e).1
        · obtain ⟨o, e, _⟩ := T.obj _ _ st7 b hb
          exact (pin' b hb o e).2
      cases b with
      | false =>
        simp only [Bool.false_eq_true, if_false] at q9 ⊢
        exact fin I9 q9
      | true =>
        simp only [if_true] at q9 ⊢
        refine thnF (pk.run _ s9 σ8 H9 _ I9 q9) fun z s10 ⟨yk, H10, I10, r10, q10⟩ => ?_
        refine thnF (pe.run _ s10 σ8 H10 _ I10 q10) fun z2 s11 ⟨yv, H11, I11, r11, kvs, k, bk, ek, eb, hD11, hz11, nx⟩ => ?_
        subst ek
        exact d_dictSetT (X := X.blk s3 H3 scope ce fp) hu I11 hD11 hz11 eb r10 r11 fun s12 I12 => fin I12 nx
  exact codeAny_compStart_dict loop (T.self X.A 0 _ _ _ st4 loop)
/-- as a value -/
theorem pe_dcT {kx vx tg iter : Expr} {ifs : List Expr} {scope : Scope} {own : List (Str × Nat)} {pos : Pos} {wi : TI} {g : TG} {tt : TT} {tk tv : TE} (hu : X.A.units + 1 < cLine) (hc : X.calm = true) (hN : X.N.Nodup) (hi : PI X tg iter wi) (ok : BlkOk X.N X.env.scope scope own)
    (hg : ∀ (s : Shared) (H : Hp) (C : Addr) (cl : List (Str × Addr)) (fp : List Addr), PG (X.blk s H scope (compEnvC scope cl C X.env) fp) tg g) (ht : ∀ (s : Shared) (H : Hp) (C : Addr) (cl : List (Str × Addr)) (fp : List Addr), PTs (X.blk s H scope (compEnvC scope cl C X.env) fp) ifs tt)
    (hk : ∀ (s : Shared) (H : Hp) (C : Addr) (cl : List (Str × Addr)) (fp : List Addr), PE (X.blk s H scope (compEnvC scope cl C X.env) fp) kx tk)
    (he : ∀ (s : Shared) (H : Hp) (C : Addr) (cl : List (Str × Addr)) (fp : List Addr), PE (X.blk s H scope (compEnvC scope cl C X.env) fp) vx tv) (hs : ∀ x, foldedSetIterable iter X.env x = pure x := by intro _; rfl) :
    PE X (.DictComp kx vx [⟨tg, iter, ifs, 0⟩] scope pos) (tDcT wi g tt tk tv (own.map (·.2))) := by
  refine ⟨fun pins s σ H Q I h => ?_⟩
  rw [arm_eval_DictComp]
  refine dcT_core hu hc hN I hi ok hg ht hk he hs h fun D C s' m H' I' q hn f => ⟨m, hn, fun h'' sb => ?_⟩
  obtain ⟨f0, f1, f2, f3, f4, f5⟩ := f
  exact ⟨.ref D, H', I'.turned (t' := s'.toks) (fun b o hb e => (sb.2 b hb).trans e) f0 f1 f3 f4 f5, rfl, q⟩

/-- {k: v for tg in iter if .. for tg1 in iter1 if ..}, keys tuples -/
def tDc2T (wi : TI) (g : TG) (tt : TT) (wi1 : TI) (g1 : TG) (tt1 : TT) (tk tv : TE) (vs vs1 : List Nat) : TE := fun σ H Q => wi σ H fun J H1 => ∀ D, H1 D = none → ∃ W : Nat → Nat → Hp → Prop, (∃ m, W 0 m (upd H1 D (.dT []))) ∧ ∀ i m H, W i m H →
  (J.stop i H ∧ Q (.ref D) H) ∨ (J.go i H ∧ ∃ Nx : Hp → Prop, (∀ H', Nx H' → ∃ m', m' < m ∧ W (i + 1) m' H') ∧ ∀ x H', J.yld i H x H' → g x (wipe σ vs) H' fun σ2 H2 => wipe σ2 vs = wipe σ vs ∧ tt σ2 H2 fun b H3 =>
    if b = true then wi1 σ2 H3 fun J1 H4 => ∃ W1 : Nat → Nat → Hp → Prop, (∃ m, W1 0 m H4) ∧ ∀ j k H, W1 j k H →
      (J1.stop j H ∧ Nx H) ∨ (J1.go j H ∧ ∃ Nx1 : Hp → Prop, (∀ H', Nx1 H' → ∃ k', k' < k ∧ W1 (j + 1) k' H') ∧ ∀ x H', J1.yld j H x H' → g1 x (wipe σ2 vs1) H' fun σ3 H5 => wipe σ3 vs1 = wipe σ2 vs1 ∧ tt1 σ3 H5 fun b H6 =>
        if b = true then tk σ3 H6 fun y H7 => tv σ3 H7 fun z H8 => ∃ (kvs : List (List Key × V)) (k : List Key) (bk : Addr), y = .ref bk ∧ H8 bk = some (.tup (k.map kV)) ∧ H8 D = some (.dT kvs) ∧ kvs.length < sizeLine ∧ Nx1 (upd H8 D (.dT (putK kvs k z))) else Nx1 H6)
    else Nx H3)
theorem dc2T_core {pins : List (Addr × Obj)} {s : Shared} {σ : St} {H : Hp} {Q : VK} {kx vx tg iter tg1 iter1 : Expr} {ifs ifs1 : List Expr} {scope : Scope} {own : List (Str × Nat)} {vs1 : List Nat} {pos pos' : Pos} {wi wi1 : TI} {g g1 : TG} {tt tt1 : TT} {tk tv : TE} {use : Option (Value → Sem Unit)} {Qf : Value → Shared → Prop}
    (hu : X.A.units + 1 < cLine) (hc : X.calm = true) (hN : X.N.Nodup) (I : Inv X pins σ H s) (hi : PI X tg iter wi) (ok : BlkOk X.N X.env.scope scope own) (hv : ∀ i ∈ vs1, i ∈ own.map (·.2))
    (hg : ∀ (s : Shared) (H : Hp) (C : Addr) (cl : List (Str × Addr)) (fp : List Addr), PG (X.blk s H scope (compEnvC scope cl C X.env) fp) tg g) (ht : ∀ (s : Shared) (H : Hp) (C : Addr) (cl : List (Str × Addr)) (fp : List Addr), PTs (X.blk s H scope (compEnvC scope cl C X.env) fp) ifs tt)
    (hk : ∀ (s : Shared) (H : Hp) (C : Addr) (cl : List (Str × Addr)) (fp : List Addr), PE (X.blk s H scope (compEnvC scope cl C X.env) fp) kx tk) (he : ∀ (s : Shared) (H : Hp) (C : Addr) (cl : List (Str × Addr)) (fp : List Addr), PE (X.blk s H scope (compEnvC scope cl C X.env) fp) vx tv) (hs : ∀ x, foldedSetIterable iter X.env x = pure x)
    (hi1 : ∀ (s : Shared) (H : Hp) (C : Addr) (cl : List (Str × Addr)) (fp : List Addr), PI (X.blk s H scope (compEnvC scope cl C X.env) fp) tg1 iter1 wi1)
    (hg1 : ∀ (s : Shared) (H : Hp) (C : Addr) (cl : List (Str × Addr)) (fp : List Addr), PG (X.blk s H scope (compEnvC scope cl C X.env) fp) tg1 g1)
    (ht1 : ∀ (s : Shared) (H : Hp) (C : Addr) (cl : List (Str × Addr)) (fp : List Addr), PTs (X.blk s H scope (compEnvC scope cl C X.env) fp) ifs1 tt1)
    (hs1 : ∀ env x, foldedSetIterable iter1 env x = pure x)
    (h : tDc2T wi g tt wi1 g1 tt1 tk tv (own.map (·.2)) vs1 σ H Q)
    (hRR : ∀ D C s' m H', Inv X pins σ H' s' → Q (.ref D) H' → s'.heap.Ns C m → FpOk X pins H' C → compPost (model X.prog X.w) X.A X.xe use Qf (.ref D) C (.ok .next) s') :
    wpAny (model X.prog X.w) X.A (comprehension (.DictComp kx vx [⟨tg, iter, ifs, 0⟩, ⟨tg1, iter1, ifs1, 0⟩] scope pos) scope X.env pos' newDict false (eval iter X.env) use) Qf X.xe s := by
  have hfree : ∀ y ∈ scope.names, y.2 = .free → ∃ c, X.env.cells.lookup y.1 = some c := fun y hy e => by
    rcases ok.free y hy e with k | k
    · exact I.ok.has _ (.inl k)
    · exact I.ok.has _ (.inr k)
  refine wpAny_comprehension_free (use := use) rfl hs (closure_ok hfree) ok.kind (fun y hy e => by rw [ok.uniq y hy, e])
    (thn (hi.run pins s σ H _ I h) fun xv s1 hx => thn hx fun itv s2 h2 => ?_)
  obtain ⟨it, fp, tn, J, H2, e, I2, T, st2, f2, q⟩ := h2
  subst e
  refine wpAny_newObj_type (newEnv_comp ?_)
  generalize hD : s2.heap.objs.size = D
  have hDn : H2 D = none := I2.hok.fresh (Nat.le_of_eq hD)
  obtain ⟨W, ⟨m0, w0⟩, turn⟩ := q D hDn
  -- the new list
  generalize hs3 : ({ s2 with heap := s2.heap.push { cls := .type "dict", data := .dict #[] } } : Shared) = s3
  have I3 : Inv X pins σ (upd H2 D (.dT [])) s3 := by
    rw [← hs3]
    refine I2.laid (t' := s2.toks) (fun b o e => Heap.get?_push_of_some _ e) (Nat.le_of_eq hD) ?_
    rw [← hD]
    exact dt_empty s2.heap I2.big
  have h3 : s3.heap = s2.heap.push { cls := .type "dict", data := .dict #[] } := by rw [← hs3]
  have sz : ∀ b ∈ fp, b < s2.heap.objs.size := fun b hb => by
    obtain ⟨o, e, _⟩ := T.obj _ _ st2 b hb
    exact Heap.lt_size e
  have f3 : ∀ b ∈ fp, FpOk X pins (upd H2 D (.dT [])) b ∧ b < s3.heap.objs.size := fun b hb => by
    have hlt := sz b hb
    refine ⟨⟨?_, (f2 b hb).2⟩, by rw [h3, Heap.size_push]; exact Nat.lt_succ_of_lt hlt⟩
    rw [upd_ne (by rw [← hD]; exact Nat.ne_of_lt hlt)]
    exact (f2 b hb).1
  have st3 : tn 0 s3.heap := T.keep _ _ _ st2 fun b _ o e => by rw [h3]; exact Heap.get?_push_of_some _ e
  have I4 := block_start I3 ok hN f3
  have pg := hg s3 (upd H2 D (.dT [])) s3.heap.objs.size (cellsFrom (s3.heap.objs.size + 1) scope.names (cloFrom X.env.cells scope.names [])) fp
  have pt := ht s3 (upd H2 D (.dT [])) s3.heap.objs.size (cellsFrom (s3.heap.objs.size + 1) scope.names (cloFrom X.env.cells scope.names [])) fp
  have pk := hk s3 (upd H2 D (.dT [])) s3.heap.objs.size (cellsFrom (s3.heap.objs.size + 1) scope.names (cloFrom X.env.cells scope.names [])) fp
  have pe := he s3 (upd H2 D (.dT [])) s3.heap.objs.size (cellsFrom (s3.heap.objs.size + 1) scope.names (cloFrom X.env.cells scope.names [])) fp
  have pi1 := hi1 s3 (upd H2 D (.dT [])) s3.heap.objs.size (cellsFrom (s3.heap.objs.size + 1) scope.names (cloFrom X.env.cells scope.names [])) fp
  have pg1 := hg1 s3 (upd H2 D (.dT [])) s3.heap.objs.size (cellsFrom (s3.heap.objs.size + 1) scope.names (cloFrom X.env.cells scope.names [])) fp
  have pt1 := ht1 s3 (upd H2 D (.dT [])) s3.heap.objs.size (cellsFrom (s3.heap.objs.size + 1) scope.names (cloFrom X.env.cells scope.names [])) fp
  show codeAny _ _ (.compStart (.DictComp kx vx [⟨tg, iter, ifs, 0⟩, ⟨tg1, iter1, ifs1, 0⟩] scope pos) 0 (.ref it) (.ref D) (compEnvC scope (cellsFrom (s3.heap.objs.size + 1) scope.names (cloFrom X.env.cells scope.names [])) s3.heap.objs.size X.env)) (compPost (model X.prog X.w) X.A X.xe use Qf (.ref D) s3.heap.objs.size) { s3 with heap := pushCells (s3.heap.push { cls := .type "dict", data := .dict #[] }) scope.names }
  have nfp : ∀ b ∈ fp, (upd H2 D (.dT [])) b = none := fun b hb => (f3 b hb).1.1
  generalize hce : compEnvC scope (cellsFrom (s3.heap.objs.size + 1) scope.names (cloFrom X.env.cells scope.names [])) s3.heap.objs.size X.env = ce at I4 pg pt pk pe pi1 pg1 pt1 ⊢
  have cL : ce.locals = s3.heap.objs.size := by subst hce; rfl
  generalize hH3 : upd H2 D (.dT []) = H3 at I3 I4 pg pt pk pe pi1 pg1 pt1 w0 nfp f3
  generalize hs4 : ({ s3 with heap := pushCells (s3.heap.push { cls := .type "dict", data := .dict #[] }) scope.names } : Shared) = s4 at I4 ⊢
  have st4 : tn 0 s4.heap := T.keep _ _ _ st3 fun b _ o e => by rw [← hs4]; exact pushCells_keeps _ _ _ _ (Heap.get?_push_of_some _ e)
  have stat : ∀ {σ' : St} {H' : Hp} {s' : Shared}, Inv (X.blk s3 H3 scope ce fp) [] σ' H' s' → (∀ b ∈ fp, H' b = none) → ∀ b ∈ fp, FpOk (X.blk s3 H3 scope ce fp) [] H' b := fun {σ' H' s'} I' hn b hb =>
    ⟨hn b hb, (I'.ok.exf b hb).1, I'.ok.exfs b hb, .inl hb, fun x c e => (I'.ok.exf b hb).2 x c e, fun p hp => absurd (show p ∈ ([] : List (Addr × Obj)) ++ [] from hp) (by simp)⟩
  have loop : codeAny (model X.prog X.w) X.A (.compLoop (.DictComp kx vx [⟨tg, iter, ifs, 0⟩, ⟨tg1, iter1, ifs1, 0⟩] scope pos) 0 (.ref it) (.ref D) ce) (compPost (model X.prog X.w) X.A X.xe use Qf (.ref D) s3.heap.objs.size) s4 := by
    refine compLoopT_out (hs1 ce) (fun n s' => ∃ i H', Inv (X.blk s3 H3 scope ce fp) [] (wipe σ (own.map (·.2))) H' s' ∧ tn i s'.heap ∧ (∀ b ∈ fp, H' b = none) ∧ W i n H') ?_ m0 ⟨0, H3, I4, st4, nfp, w0⟩
    rintro n s5 ⟨i, H5, I5, st5, n5, w5⟩
    rcases turn i n H5 w5 with ⟨stop, qq⟩ | ⟨go, Nx, hNx, step⟩
    · have td := T.done (X.blk s3 H3 scope ce fp) rfl rfl rfl hc i [] s5 _ H5 (fun _ _ => False) I5 (stat I5 n5) st5 stop
      refine thnF td fun r s6 ⟨hr, I6⟩ => ?_
      subst hr
      -- back in the def's context
      have I7 : Inv X pins σ H5 s6 := I3.call' (ch := fp) I6.os I6.base I6.hok I6.bare fun b hb => ⟨(f3 b hb).1.2.2.2.1, (f3 b hb).1.2.1, (f3 b hb).1.2.2.2.2.1, (f3 b hb).1.2.2.2.2.2⟩
      have nC : H5 s3.heap.objs.size = none := by
        have z : H5 ce.locals = none := I6.free
        rw [cL] at z
        exact z
      obtain ⟨m, hn, _⟩ := I6.loc
      have hn : s6.heap.Ns ce.locals m := hn
      rw [cL] at hn
      exact hRR D s3.heap.objs.size s6 m H5 I7 qq hn (I3.fpOk (Nat.le_refl _) nC)
    · have ti := T.item (X.blk s3 H3 scope ce fp) rfl rfl rfl hc i [] s5 _ H5 (fun _ _ => False) I5 (stat I5 n5) st5 go
      refine thnF ti fun r s6 ⟨u, hr, h6⟩ => ?_
      subst hr
      refine thnF h6 fun _ s7 ⟨x, H7, I7, r7, y7, st7, n7⟩ => ?_
      have I7' := I7.pinned (stat I7 n7) (T.obj _ _ st7)
      refine thnF (pg.run _ s7 _ H7 x u _ I7' r7 (step x H7 y7)) fun _ s8 ⟨σ8, H8, I8, hw8, q8⟩ => ?_
      refine thnF (pt.run _ s8 σ8 H8 _ I8 q8) fun b s9 ⟨H9, I9, q9⟩ => ?_
      -- the turn's end, from any slots that know what the block knew at its start
      have fin : ∀ {σ9 : St} {s' : Shared} {H' : Hp}, Inv (X.blk s3 H3 scope ce fp) ([] ++ pinsAt fp s7.heap) σ9 H' s' → (wipe σ (own.map (·.2))).length = σ9.length → (∀ (j : Nat) v, (wipe σ (own.map (·.2)))[j]? = some (some v) → σ9[j]? = some (some v)) → Nx H' →
          ∃ m, m < n ∧ ∃ i H', Inv (X.blk s3 H3 scope ce fp) [] (wipe σ (own.map (·.2))) H' s' ∧ tn i s'.heap ∧ (∀ b ∈ fp, H' b = none) ∧ W i m H' := fun {σ9 s' H'} I' hl hk nx => by
        obtain ⟨m', hm, w'⟩ := hNx H' nx
        have pin' : ∀ b ∈ fp, ∀ o, s7.heap.get? b = some o → s'.heap.get? b = some o ∧ H' b = none := fun b hb o e =>
          let z := I'.pin (b, o) (List.mem_append_right _ (List.mem_append_right _ (mem_pinsAt hb e)))
          ⟨z.1, z.2.1⟩
        refine ⟨m', hm, i + 1, H', (I'.unpinned (pins := [])).weak hl hk, T.keep _ _ _ st7 fun b hb o e => (pin' b hb o e).1, fun b hb => ?_, w'⟩
        obtain ⟨o, e, _⟩ := T.obj _ _ st7 b hb
        exact (pin' b hb o e).2
      have hl8 : (wipe σ (own.map (·.2))).length = σ8.length := by rw [← hw8, wipe_length]
      have hk8 : ∀ (j : Nat) v, (wipe σ (own.map (·.2)))[j]? = some (some v) → σ8[j]? = some (some v) := fun j v e => by
        rw [← hw8] at e
        exact (wipe_some e).1
      have hk9 : ∀ (j : Nat) v, (wipe σ (own.map (·.2)))[j]? = some (some v) → (wipe σ8 vs1)[j]? = some (some v) := fun j v e => by
        rw [← hw8] at e
        obtain ⟨e1, e2⟩ := wipe_some e
        rw [wipe_out fun z => e2 (hv j z)]
        exact e1
      cases b with
      | false =>
        simp only [Bool.false_eq_true, if_false] at q9 ⊢
        exact fin I9 hl8 hk8 q9
      | true =>
        simp only [if_true] at q9 ⊢
        refine thnF (pi1.run _ s9 σ8 H9 _ I9 q9) fun xv s10 hx => thnF hx fun itv s11 h11 => ?_
        obtain ⟨it1, fp1, tn1, J1, H11, e1, I11, T1, st11, f11, W1, ⟨m1, w1⟩, turn1⟩ := h11
        subst e1
        -- the inner loop
        have stat1 : ∀ {H' : Hp}, (∀ b ∈ fp1, H' b = none) → ∀ b ∈ fp1, FpOk (X.blk s3 H3 scope ce fp) ([] ++ pinsAt fp s7.heap) H' b := fun hn b hb => ⟨hn b hb, (f11 b hb).2⟩
        have loop1 : codeAny (model X.prog X.w) X.A (.compLoop (.DictComp kx vx [⟨tg, iter, ifs, 0⟩, ⟨tg1, iter1, ifs1, 0⟩] scope pos) 1 (.ref it1) (.ref D) ce)
            (fun r s' => match r with
              | .ok _ => ∃ m, m < n ∧ ∃ i H', Inv (X.blk s3 H3 scope ce fp) [] (wipe σ (own.map (·.2))) H' s' ∧ tn i s'.heap ∧ (∀ b ∈ fp, H' b = none) ∧ W i m H'
              | .error _ => False) s11 := by
          refine compLoopT_in (fun k s' => ∃ j H', Inv (X.blk s3 H3 scope ce fp) ([] ++ pinsAt fp s7.heap) (wipe σ8 vs1) H' s' ∧ tn1 j s'.heap ∧ (∀ b ∈ fp1, H' b = none) ∧ W1 j k H') ?_ m1 ⟨0, H11, I11.weak (wipe_length _ _) (fun j v e => (wipe_some e).1), st11, fun b hb => (f11 b hb).1, w1⟩
          rintro k s12 ⟨j, H12, I12, st12, n12, w12⟩
          rcases turn1 j k H12 w12 with ⟨stop1, nx1⟩ | ⟨go1, Nx1, hNx1, step1⟩
          · refine thnF (T1.done (X.blk s3 H3 scope ce fp) rfl rfl rfl hc j _ s12 (wipe σ8 vs1) H12 (fun _ _ => False) I12 (stat1 n12) st12 stop1) fun r s13 ⟨hr, I13⟩ => ?_
            subst hr
            exact fin I13 (hl8.trans (wipe_length σ8 vs1).symm) hk9 nx1
          · refine thnF (T1.item (X.blk s3 H3 scope ce fp) rfl rfl rfl hc j _ s12 (wipe σ8 vs1) H12 (fun _ _ => False) I12 (stat1 n12) st12 go1) fun r s13 ⟨u1, hr, h13⟩ => ?_
            subst hr
            refine thnF h13 fun _ s14 ⟨x1, H14, I14, r14, y14, st14, n14⟩ => ?_
            have I14' := I14.pinned (stat1 n14) (T1.obj _ _ st14)
            refine thnF (pg1.run _ s14 (wipe σ8 vs1) H14 x1 u1 _ I14' r14 (step1 x1 H14 y14)) fun _ s15 ⟨σ15, H15, I15, hw15, q15⟩ => ?_
            refine thnF (pt1.run _ s15 σ15 H15 _ I15 q15) fun b1 s16 ⟨H16, I16, q16⟩ => ?_
            have fin1 : ∀ {s' : Shared} {H' : Hp}, Inv (X.blk s3 H3 scope ce fp) (([] ++ pinsAt fp s7.heap) ++ pinsAt fp1 s14.heap) σ15 H' s' → Nx1 H' → ∃ m, m < k ∧ ∃ j H', Inv (X.blk s3 H3 scope ce fp) ([] ++ pinsAt fp s7.heap) (wipe σ8 vs1) H' s' ∧ tn1 j s'.heap ∧ (∀ b ∈ fp1, H' b = none) ∧ W1 j m H' := fun {s' H'} I' nx => by
              obtain ⟨m', hm, w'⟩ := hNx1 H' nx
              have pin' : ∀ b ∈ fp1, ∀ o, s14.heap.get? b = some o → s'.heap.get? b = some o ∧ H' b = none := fun b hb o e =>
                let z := I'.pin (b, o) (List.mem_append_right _ (List.mem_append_right _ (mem_pinsAt hb e)))
                ⟨z.1, z.2.1⟩
              refine ⟨m', hm, j + 1, H', I'.unpinned.weak (by rw [← hw15, wipe_length]) (fun j v e => by rw [← hw15] at e; exact (wipe_some e).1), T1.keep _ _ _ st14 fun b hb o e => (pin' b hb o e).1, fun b hb => ?_, w'⟩
              obtain ⟨o, e, _⟩ := T1.obj _ _ st14 b hb
              exact (pin' b hb o e).2
            cases b1 with
            | false =>
              simp only [Bool.false_eq_true, if_false] at q16 ⊢
              exact fin1 I16 q16
            | true =>
              simp only [if_true] at q16 ⊢
              refine thnF (pk.run _ s16 σ15 H16 _ I16 q16) fun z s17 ⟨yk, H17, I17, r17, q17⟩ => ?_
              refine thnF (pe.run _ s17 σ15 H17 _ I17 q17) fun z2 s18 ⟨yv, H18, I18, r18, kvs, k, bk, ek, eb, hD18, hz18, nx⟩ => ?_
              subst ek
              exact d_dictSetT (X := X.blk s3 H3 scope ce fp) hu I18 hD18 hz18 eb r17 r18 fun s19 I19 => fin1 I19 nx
        exact compStartT_ok loop1 (T1.self X.A 0 _ _ _ st11 loop1)
  exact codeAny_compStart_dict loop (T.self X.A 0 _ _ _ st4 loop)
/-- as a value -/
theorem pe_dc2T {kx vx tg iter tg1 iter1 : Expr} {ifs ifs1 : List Expr} {scope : Scope} {own : List (Str × Nat)} {vs1 : List Nat} {pos : Pos} {wi wi1 : TI} {g g1 : TG} {tt tt1 : TT} {tk tv : TE} (hu : X.A.units + 1 < cLine) (hc : X.calm = true) (hN : X.N.Nodup) (hi : PI X tg iter wi) (ok : BlkOk X.N X.env.scope scope own) (hv : ∀ i ∈ vs1, i ∈ own.map (·.2))
    (hg : ∀ (s : Shared) (H : Hp) (C : Addr) (cl : List (Str × Addr)) (fp : List Addr), PG (X.blk s H scope (compEnvC scope cl C X.env) fp) tg g) (ht : ∀ (s : Shared) (H : Hp) (C : Addr) (cl : List (Str × Addr)) (fp : List Addr), PTs (X.blk s H scope (compEnvC scope cl C X.env) fp) ifs tt)
    (hi1 : ∀ (s : Shared) (H : Hp) (C : Addr) (cl : List (Str × Addr)) (fp : List Addr), PI (X.blk s H scope (compEnvC scope cl C X.env) fp) tg1 iter1 wi1)
    (hg1 : ∀ (s : Shared) (H : Hp) (C : Addr) (cl : List (Str × Addr)) (fp : List Addr), PG (X.blk s H scope (compEnvC scope cl C X.env) fp) tg1 g1) (ht1 : ∀ (s : Shared) (H : Hp) (C : Addr) (cl : List (Str × Addr)) (fp : List Addr), PTs (X.blk s H scope (compEnvC scope cl C X.env) fp) ifs1 tt1)
    (hk : ∀ (s : Shared) (H : Hp) (C : Addr) (cl : List (Str × Addr)) (fp : List Addr), PE (X.blk s H scope (compEnvC scope cl C X.env) fp) kx tk) (he : ∀ (s : Shared) (H : Hp) (C : Addr) (cl : List (Str × Addr)) (fp : List Addr), PE (X.blk s H scope (compEnvC scope cl C X.env) fp) vx tv) (hs : ∀ x, foldedSetIterable iter X.env x = pure x := by intro _; rfl) (hs1 : ∀ env x, foldedSetIterable iter1 env x = pure x := by intro _ _; rfl) :
    PE X (.DictComp kx vx [⟨tg, iter, ifs, 0⟩, ⟨tg1, iter1, ifs1, 0⟩] scope pos) (tDc2T wi g tt wi1 g1 tt1 tk tv (own.map (·.2)) vs1) := by
  refine ⟨fun pins s σ H Q I h => ?_⟩
  rw [arm_eval_DictComp]
  refine dc2T_core hu hc hN I hi ok hv hg ht hk he hs hi1 hg1 ht1 hs1 h fun D C s' m H' I' q hn f => ⟨m, hn, fun h'' sb => ?_⟩
  obtain ⟨f0, f1, f2, f3, f4, f5⟩ := f
  exact ⟨.ref D, H', I'.turned (t' := s'.toks) (fun b o hb e => (sb.2 b hb).trans e) f0 f1 f3 f4 f5, rfl, q⟩
theorem ps_setDc2T {i : Nat} {y : Str} {py : Pos} {kx vx tg iter tg1 iter1 : Expr} {ifs ifs1 : List Expr} {scope : Scope} {own : List (Str × Nat)} {vs1 : List Nat} {pos spos : Pos} {wi wi1 : TI} {g g1 : TG} {tt tt1 : TT} {tk tv : TE} (hu : X.A.units + 1 < cLine) (hc : X.calm = true) (hN : X.N.Nodup) (hy : X.N[i]? = some y) (hyl : X.env.scope.names.lookup y = some .local)
    (hsw : swapsWith (.DictComp kx vx [⟨tg, iter, ifs, 0⟩, ⟨tg1, iter1, ifs1, 0⟩] scope pos) (some (.Name y py)) spos.line X.env = pure true) (hi : PI X tg iter wi) (ok : BlkOk X.N X.env.scope scope own) (hv : ∀ i ∈ vs1, i ∈ own.map (·.2))
    (hg : ∀ (s : Shared) (H : Hp) (C : Addr) (cl : List (Str × Addr)) (fp : List Addr), PG (X.blk s H scope (compEnvC scope cl C X.env) fp) tg g) (ht : ∀ (s : Shared) (H : Hp) (C : Addr) (cl : List (Str × Addr)) (fp : List Addr), PTs (X.blk s H scope (compEnvC scope cl C X.env) fp) ifs tt)
    (hi1 : ∀ (s : Shared) (H : Hp) (C : Addr) (cl : List (Str × Addr)) (fp : List Addr), PI (X.blk s H scope (compEnvC scope cl C X.env) fp) tg1 iter1 wi1)
    (hg1 : ∀ (s : Shared) (H : Hp) (C : Addr) (cl : List (Str × Addr)) (fp : List Addr), PG (X.blk s H scope (compEnvC scope cl C X.env) fp) tg1 g1) (ht1 : ∀ (s : Shared) (H : Hp) (C : Addr) (cl : List (Str × Addr)) (fp : List Addr), PTs (X.blk s H scope (compEnvC scope cl C X.env) fp) ifs1 tt1)
    (hk : ∀ (s : Shared) (H : Hp) (C : Addr) (cl : List (Str × Addr)) (fp : List Addr), PE (X.blk s H scope (compEnvC scope cl C X.env) fp) kx tk) (he : ∀ (s : Shared) (H : Hp) (C : Addr) (cl : List (Str × Addr)) (fp : List Addr), PE (X.blk s H scope (compEnvC scope cl C X.env) fp) vx tv) (hs : ∀ x, foldedSetIterable iter X.env x = pure x := by intro _; rfl) (hs1 : ∀ env x, foldedSetIterable iter1 env x = pure x := by intro _ _; rfl) :
    PS X (.Assign [.Name y py] (.DictComp kx vx [⟨tg, iter, ifs, 0⟩, ⟨tg1, iter1, ifs1, 0⟩] scope pos) spos) (tAsg (tDc2T wi g tt wi1 g1 tt1 tk tv (own.map (·.2)) vs1) (gName i)) := by
  refine ⟨fun pins s σ H D I h => ?_⟩
  rw [exec_Assign_Name_used _ _ _ _ hsw]
  refine wpAny_bind (wpAny_standAt (wpAny_bind ?_))
  show wpAny _ X.A (do let _ ← comprehension (.DictComp kx vx [⟨tg, iter, ifs, 0⟩, ⟨tg1, iter1, ifs1, 0⟩] scope pos) scope X.env (firstIterPos [⟨tg, iter, ifs, 0⟩, ⟨tg1, iter1, ifs1, 0⟩] pos) newDict false (eval iter X.env) (some (assign (.Name y py) X.env))) _ _ s
  have h : tDc2T wi g tt wi1 g1 tt1 tk tv (own.map (·.2)) vs1 σ H (fun x H1 => gName i x σ H1 D.nx) := h
  refine wpAny_bind (thn (dc2T_core (Qf := fun _ s' => SP X pins D .next s') hu hc hN I hi ok hv hg ht hk he hs hi1 hg1 ht1 hs1 h fun L C s' m H' I' q hn f => ?_) fun _ s' hq => wpAny_pure (wpAny_pure hq))
  show wpAny _ _ (assign (.Name y py) X.env (.ref L)) _ _ _
  refine wpAny_assign_Name (store_ok2 (v := V.ref L) I' hN hy (.inl hyl) rfl (fun s2 I2 ⟨a, sb, ha⟩ => ?_) (.inr hyl))
  obtain ⟨f0, f1, f2, f3, f4, f5⟩ := f
  have haC : C ≠ a := by
    rcases ha with z | z
    · rw [z]; exact f1
    · exact fun e => f4 y a z e.symm
  refine ⟨m, hn.sameBut sb haC, fun h3 sb3 => ?_⟩
  exact ⟨_, H', I2.turned (t' := s2.toks) (fun b o hb e => (sb3.2 b hb).trans e) f0 f1 f3 f4 f5, q⟩
end
/-! ### setdefault, keys tuples -/
theorem meets_setdefaultT {prog : Program} {w : World} {Kt : Type} [DecidableEq Kt] (knd : HeapKind prog w Kt) {k : Kt} (d a : Addr) (hd : (d == sysModules) = false) (dflt : Value) :
    MeetsIn prog w (Builtin.«dict.setdefault» ⟨[.ref d, .ref a, dflt], []⟩) (fun A R s => knd.room A.in1 ∧ ∃ xs, knd.is s.heap k a ∧ s.heap.DictOfH knd d xs ∧ xs.length ≤ sizeLine ∧
      (∀ p tk, atKey xs k = some p → R (.ok (.ret p.2)) { s with toks := tk }) ∧
      (∀ tk, atKey xs k = none → ∀ h', h'.DictOfH knd d (storedH xs k a dflt) → Heap.SameBut d s.heap h' → R (.ok (.ret dflt)) { s with heap := h', toks := tk })) :=
  .of_wp fun A R s ⟨hu, xs, hkey, hm, hz, h1, h2⟩ => by
    unfold Builtin.«dict.setdefault»
    refine wpAny_bind ?_
    unfold Builtin.Dict.keyAndDefault
    refine wpAny_bind (wpAny_notOrdered_dict hm.typeIs ?_)
    show wpAny _ _ (pure (d, Value.ref a, some dflt)) _ _ s
    refine wpAny_pure ?_
    show wpAny _ _ (if (d == sysModules) = true then _ else (dictSetDefault d (.ref a) dflt >>= _)) _ _ s
    rw [if_neg (by rw [hd]; exact Bool.false_ne_true)]
    exact wpAny_bind (wpAny_dictSetDefault_heap (hsz := hz) hu hkey hm (fun p hp => wpAny_pure ⟨_, rfl, h1 p _ hp⟩) fun hn h' hm' hs' => wpAny_pure ⟨_, rfl, h2 _ hn h' hm' hs'⟩)
section
variable {X : Cx} {pins : List (Addr × Obj)} {σ : St} {H : Hp} {s : Shared} {a b : Addr} {r : Value} {d : V} {k : List Key} {A : Around} {E : Value → Shared → Prop}
theorem d_setdT {kvs : List (List Key × V)} {Q : Value → Shared → Prop} (hu : A.units + 1 < cLine) (I : Inv X pins σ H s) (e : H a = some (.dT kvs)) (eb : H b = some (.tup (k.map kV))) (rd : RelV d r) (hl : kvs.length < sizeLine)
    (h1 : ∀ v, valV kvs k = some v → ∀ (w' : Value) (s' : Shared), Inv X pins σ H s' → RelV v w' → Q w' s') (h2 : valV kvs k = none → ∀ (w' : Value) (s' : Shared), Inv X pins σ (upd H a (.dT (putK kvs k d))) s' → RelV d w' → Q w' s') :
    wpAny (model X.prog X.w) A (call (.builtin "dict.setdefault") [.ref a, .ref b, r]) Q E s := by
  obtain ⟨z, hd, xs, rel, dd⟩ := dt_of I.hok e
  have hz : xs.length ≤ sizeLine := by rw [← Paired.length rel]; exact z
  have qv := rel.val k
  refine call_meetsIn PySem.F.slot_dict_setdefault dd.typeIs PySem.F.entry_dict_setdefault (PySem.F.args_dict_setdefault_3 _ _ _) (meets_setdefaultT (tupleKind (mixKind X.prog X.w)) a b hd r) ⟨tupleKind_room_in1 hu, xs, key_of I.hok eb, dd, hz, fun p tk hp => ?_, fun tk hn h' dd' hs => ?_⟩
  · rw [hp] at qv
    cases q0 : valV kvs k with
    | none =>
      rw [q0] at qv
      exact (show False from qv).elim
    | some v0 =>
      rw [q0] at qv
      exact h1 v0 q0 _ _ (I.tok _) qv
  · rw [hn] at qv
    cases q0 : valV kvs k with
    | some v0 =>
      rw [q0] at qv
      exact (show False from qv).elim
    | none =>
      have hl2 : (putK kvs k d).length ≤ sizeLine := by
        have := length_putK kvs k d
        omega
      obtain ⟨q, es, ep, hq, h2', h3, h4, _, h5⟩ := dd'
      refine h2 q0 _ _ (d_write (t' := tk) I (by rw [e]; exact True.intro) hs ⟨q, hq⟩ ⟨hl2, hd, _, (rel.put k eb rd).keeps fun c ys ec => ?_, q, es, ep, hq, h2', h3, h4, h5⟩) rd
      rw [upd_ne (ne_of ec e (fun z => nomatch z))]
      exact ec
end
/-- d.setdefault(y, z) -/
def tDSetdT (td ty tx : TE) : TE := fun σ H Q => td σ H fun x H1 => ∃ a, x = .ref a ∧ IsD H1 a ∧ ty σ H1 fun y H2 => tx σ H2 fun z H3 => ∃ (kvs : List (List Key × V)) (k : List Key) (b : Addr), H3 a = some (.dT kvs) ∧ y = .ref b ∧ H3 b = some (.tup (k.map kV)) ∧ kvs.length < sizeLine ∧
  (∀ v, valV kvs k = some v → Q v H3) ∧ (valV kvs k = none → Q z (upd H3 a (.dT (putK kvs k z))))
section
variable {X : Cx} {o e f : Expr} {td ty tx : TE} {apos cpos : Pos}
theorem pe_dsetdT (hu : X.A.units + 64 < cLine) (ho : PE X o td) (he : PE X e ty) (hf : PE X f tx) (m : M2 X o "setdefault" apos e f cpos) : PE X (.Call (.Attribute o "setdefault" apos) [e, f] [] cpos) (tDSetdT td ty tx) := by
  refine ⟨fun pins s σ H Q I h => ?_⟩
  refine wpAny_Call_method m.base m.few m.line PySem.F.plainAttrs_dict PySem.F.slot_dict_setdefault PySem.F.type_dict_setdefault (thn (ho.run pins s σ H _ I h) fun u s1 ⟨x, H1, I1, rx, a, ex, d, q1⟩ => ?_)
  subst ex
  obtain rfl : u = Value.ref a := rx
  obtain ⟨t1, t2, _⟩ := isD_at I1 d
  refine ⟨t1, t2, ?_⟩
  rw [m.trees]
  refine Calls.callWith_builtin rfl (Calls.evalArgs_plain (Calls.spliced_cons (thn (he.run pins s1 σ H1 _ I1 q1) fun iv s2 ⟨y, H2, I2, ry, q2⟩ =>
    Calls.spliced_cons (thn (hf.run pins s2 σ H2 _ I2 q2) fun fv s3 ⟨z, H3, I3, rz, kvs, k, b, ea, ey, eb, hl, q3, q4⟩ => Calls.spliced_nil ?_))))
  subst ey
  cases (show iv = Value.ref b from ry)
  exact d_setdT (Nat.lt_of_le_of_lt (Nat.add_le_add_left (by decide : 1 ≤ 64) _) hu) I3 ea eb rz hl (fun v hv w' s4 I4 rw' => ⟨v, _, I4, rw', q3 v hv⟩) fun hn w' s4 I4 rw' => ⟨z, _, I4, rw', q4 hn⟩
end
end L2
/-! R2 -/
set_option maxHeartbeats 2000000
namespace L2
open PySem PySem.Spec PyProof.Rows PySem.W
section
variable {prog : Program} {w : World} {A : Around} {E : Value → Shared → Prop} {s : Shared} {β : Type} {vs : List Value} {bs : List β} {enc : β → PyData} {R : Value → β → Prop}
/-- sorted of whatever can be collected, the items reading as data -/
theorem sorted_of {r : Addr} {Q : Value → Shared → Prop} (hc : ∀ (R : List Value → Shared → Prop) (E : Value → Shared → Prop), (∀ h' tk, (∀ b o, s.heap.get? b = some o → h'.get? b = some o) → R vs { s with heap := h', toks := tk }) → wpAny (model prog w) A.in1 (collect (.ref r)) R E s)
    (e : EachIs R vs bs) (er : EachIs (fun v b => Reads s.heap v (enc b) []) vs bs) (hal : AllAlike (bs.map enc)) (hk : Sortable (bs.map enc)) (hL : bs.length ≤ sizeLine) (hu : ∀ b, b ∈ bs → A.in1.units + 1 + (enc b).depth < cLine)
    (h : ∀ (h1 h' : Heap) (tk : Nat) (out : List Value) (c : Nat), (∀ b o, s.heap.get? b = some o → h1.get? b = some o) → (∀ b o, h1.get? b = some o → h'.get? b = some o) → h'.get? h1.objs.size = some (seqObj "list" (List.toArray out) c) → EachIs R out (bs.mergeSort (dataLe false enc)) → Q (.ref h1.objs.size) { s with heap := h', toks := tk }) :
    wpAny (model prog w) A (call (.builtin "sorted") [.ref r]) Q E s := by
  refine Calls.call_function_entry PyProof.Rows.kind_sorted PyProof.Rows.plain_sorted PyProof.Rows.entry_sorted (PyProof.Rows.args_sorted1 _) ?_
  unfold Builtin.«sorted»
  refine wpAny_bind (m := checkCount "sorted" 1 1 _) (wpAny_pure ?_)
  refine wpAny_bind (hc _ _ fun h' tk kp => ?_)
  refine wpAny_bind (wpAny_newList ?_ (by rw [e.length]; exact hL))
  have hoL : (h'.push (seqObj "list" vs.toArray 0)).get? h'.objs.size = some (seqObj "list" vs.toArray 0) := Heap.get?_push_size _ rfl
  show wpAny _ _ _ _ _ { s with heap := h'.push (seqObj "list" vs.toArray 0), toks := tk }
  refine wpAny_bind (wpAny_holding (list_sort_data (A := A.in1) (s := { s with heap := h'.push (seqObj "list" vs.toArray 0), toks := tk }) hoL e (er.mono fun v b x => ⟨[], PyProof.Rows.Reads.keeps (fun c o z => Heap.get?_push_of_some _ (kp c o z)) x, by simp⟩) hal hk hL hu fun out hl eo => ?_))
  obtain ⟨c, he'⟩ := PyProof.Rows.sortedHeap_at (vs := vs) (out := List.toArray out) hoL
  refine wpAny_pure ⟨_, rfl, h _ _ tk out c kp (fun b o z => ?_) he' eo⟩
  have hlt := Heap.lt_size z
  rw [PyProof.Rows.sortedHeap_old (Nat.ne_of_lt hlt) (by rw [size_push']; exact Nat.lt_succ_of_lt hlt)]
  exact Heap.get?_push_of_some _ z
end
end L2
namespace Kn
open PySem PySem.Spec PyProof.Rows PySem.W L2
/-! ### tuples of small numbers as data -/
def dI (ns : List Nat) : PyData := .tuple (ns.map fun n : Nat => PyData.int (n : Int))
theorem depth_nats : ∀ ns : List Nat, PyData.depthAll (ns.map fun n : Nat => PyData.int (n : Int)) = 0
  | [] => by simp [PyData.depthAll]
  | x :: xs => by
    show PyData.depthAll (.int (x : Int) :: xs.map fun n : Nat => PyData.int (n : Int)) = 0
    rw [PyData.depthAll, depth_nats xs]
    simp [PyData.depth]
theorem depth_dI (ns : List Nat) : (dI ns).depth = 1 := by
  show (PyData.tuple _).depth = 1
  rw [PyData.depth, depth_nats]
theorem alike_nats : ∀ xs ys : List Nat, alikeAll (xs.map fun n : Nat => PyData.int (n : Int)) (ys.map fun n : Nat => PyData.int (n : Int)) = true
  | [], _ => by simp [alikeAll]
  | _ :: _, [] => by simp [alikeAll]
  | x :: xs, y :: ys => by
    show alikeAll (.int (x : Int) :: xs.map fun n : Nat => PyData.int (n : Int)) (.int (y : Int) :: ys.map fun n : Nat => PyData.int (n : Int)) = true
    rw [alikeAll, alike_nats xs ys]
    simp [alike]
theorem alike_dI (xs ys : List Nat) : alike (dI xs) (dI ys) = true := by
  show alike (.tuple _) (.tuple _) = true
  rw [alike]
  exact alike_nats xs ys
theorem readsAll_vals {h : Heap} : ∀ {ns : List Nat} {us : List Value}, Vals (tI ns) us → ReadsAll h us (ns.map fun n : Nat => PyData.int (n : Int)) []
  | [], _, r => by
    have r' : Vals [] _ := r
    cases r'
    exact .nil
  | n :: ns, _, r => by
    rw [tI_cons] at r
    cases r with
    | cons r1 t =>
      obtain ⟨k, rfl⟩ := r1
      exact ReadsAll.cons (as := []) (bs := []) (.int _ _) (readsAll_vals t)
section
variable {X : Cx} {pins : List (Addr × Obj)} {σ : L2.St} {H : Hp} {s : Shared}
theorem reads_dI (I : Inv X pins σ H s) {a : Addr} {ns : List Nat} (h : H a = some (.tup (tI ns))) : Reads s.heap (.ref a) (dI ns) [] := by
  obtain ⟨its, rv, ⟨o, ho, hc, n, hd⟩, _⟩ := I.tuple (SqT.of (K := X.K) h)
  exact .tuple ho hc hd (by simpa using readsAll_vals rv)
theorem each_zip {P : Value → V × List Nat → Prop} : ∀ {us : List Value} {vs : List V} {rows : List (List Nat)}, us.length = vs.length → vs.length = rows.length → (∀ (i : Nat) (u : Value) (v : V) (r : List Nat), us[i]? = some u → vs[i]? = some v → rows[i]? = some r → P u (v, r)) → EachIs P us (vs.zip rows)
  | [], [], [], _, _, _ => .nil
  | u :: us, v :: vs, r :: rows, h1, h2, hp => .cons (hp 0 u v r rfl rfl rfl) (each_zip (by simpa using h1) (by simpa using h2) fun i u' v' r' e1 e2 e3 => hp (i + 1) u' v' r' (by simpa using e1) (by simpa using e2) (by simpa using e3))
  | [], _ :: _, _, h, _, _ => by simp at h
  | _ :: _, [], _, h, _, _ => by simp at h
  | _, [], _ :: _, _, h, _ => by simp at h
  | _, _ :: _, [], _, h, _ => by simp at h
theorem vals_each {ps : List (V × List Nat)} : ∀ {us : List Value}, EachIs (fun u p => RelV p.1 u) us ps → Vals (ps.map (·.1)) us := by
  induction ps with
  | nil => intro us h; cases h; exact .nil
  | cons p ps ih => intro us h; cases h with | cons h1 h2 => exact .cons h1 (ih h2)
/-- what sorted leaves: the same rows, perhaps in another order -/
def SrtTo (rows : List (List Nat)) (H : Hp) (Q : VK) : Prop := ∀ (p : Addr) (ys : List V) (rows' : List (List Nat)), H p = none → rows'.Perm rows → TL H ys rows' → Q (.ref p) (upd H p (.lst ys))
theorem sorted_rows {Q : VK} {r : Addr} {us : List Value} {vs : List V} {rows : List (List Nat)} (I : Inv X pins σ H s) (hu : X.A.units + 64 < cLine)
    (hc : ∀ (R : List Value → Shared → Prop) (E : Value → Shared → Prop), (∀ h' tk, (∀ b o, s.heap.get? b = some o → h'.get? b = some o) → R us { s with heap := h', toks := tk }) → wpAny (model X.prog X.w) X.A.in1 (collect (.ref r)) R E s)
    (rv : Vals vs us) (htl : TL H vs rows) (hne : ∀ q ∈ rows, q ≠ []) (hz : rows.length ≤ sizeLine) (q : SrtTo rows H Q) : wpAny (model X.prog X.w) X.A (call (.builtin "sorted") [.ref r]) (EP X pins σ Q) X.xe s := by
  have hat : ∀ (i : Nat) (u : Value) (v : V) (q : List Nat), us[i]? = some u → vs[i]? = some v → rows[i]? = some q → RelV v u ∧ Tup H v q := fun i u v q e1 e2 e3 => by
    obtain ⟨u', h1, h2⟩ := Vals.get rv e2
    rw [e1] at h1
    cases h1
    obtain ⟨q', h3, h4⟩ := htl.2 i v e2
    rw [e3] at h3
    cases h3
    exact ⟨h2, h4⟩
  have hb : ∀ b ∈ vs.zip rows, Tup H b.1 b.2 := fun b hb => by
    obtain ⟨i, hi, e⟩ := List.getElem_of_mem hb
    have e' : (vs.zip rows)[i]? = some b := by rw [List.getElem?_eq_getElem hi, e]
    obtain ⟨e1, e2⟩ := List.getElem?_zip_eq_some.mp e'
    obtain ⟨q', h3, h4⟩ := htl.2 i b.1 e1
    rw [e2] at h3
    cases h3
    exact h4
  refine sorted_of (bs := vs.zip rows) (enc := fun b => dI b.2) (R := fun u b => RelV b.1 u) hc (each_zip rv.length.symm htl.1 fun i u v q e1 e2 e3 => (hat i u v q e1 e2 e3).1) (each_zip rv.length.symm htl.1 fun i u v q e1 e2 e3 => ?_) (AllAlike.of fun b b' => alike_dI _ _) ?_
    (by rw [List.length_zip, htl.1, Nat.min_self]; exact hz) (fun b _ => ?_) fun h1 h' tk out c k1 k2 ho eo => ?_
  · obtain ⟨h1, a, rfl, h2⟩ := hat i u v q e1 e2 e3
    cases h1
    exact reads_dI I h2
  · refine .inl fun d hd => ?_
    obtain ⟨b, hb', rfl⟩ := List.mem_map.mp hd
    have hm : b.2 ∈ rows := (List.of_mem_zip hb').2
    cases e : b.2 with
    | nil => exact absurd e (hne _ hm)
    | cons x xs => exact ⟨_, _, rfl⟩
  · show X.A.in1.units + 1 + (dI b.2).depth < cLine
    rw [depth_dI]
    show X.A.units + 1 + 1 + 1 < cLine
    omega
  · have I1 : Inv X pins σ H { s with heap := h1, toks := tk } := I.kept k1
    generalize hp : (vs.zip rows).mergeSort (dataLe false fun b => dI b.2) = ps at eo
    have hpm : ps.Perm (vs.zip rows) := by rw [← hp]; exact List.mergeSort_perm _ _
    have hlen : (ps.map (·.1)).length ≤ sizeLine := by rw [List.length_map, hpm.length_eq, List.length_zip, htl.1, Nat.min_self]; exact hz
    refine ⟨.ref h1.objs.size, upd H h1.objs.size (.lst (ps.map (·.1))), I1.laid (t' := tk) k2 (Nat.le_refl _) (show ObjOk X.prog X.w _ _ _ (.lst (ps.map (·.1))) from ⟨hlen, out, c, vals_each eo, ho⟩), rfl, q _ _ (ps.map (·.2)) (I1.hok.fresh (Nat.le_refl _)) ?_ ?_⟩
    · have z := hpm.map (·.2)
      rw [List.map_snd_zip (by rw [htl.1]; exact Nat.le_refl _)] at z
      exact z
    · refine ⟨by rw [List.length_map, List.length_map], fun i v e => ?_⟩
      rw [List.getElem?_map] at e
      cases e2 : ps[i]? with
      | none => rw [e2] at e; cases e
      | some b =>
        rw [e2] at e
        cases e
        exact ⟨b.2, by rw [List.getElem?_map, e2]; rfl, hb b (hpm.mem_iff.mp (List.mem_of_getElem? e2))⟩
end
/-- sorted(xs), xs a list of tuples of small numbers -/
theorem cr_sortedTL {X : Cx} (hu : X.A.units + 64 < cLine) : CallR X (.builtin "sorted") (fun xs H Q => ∃ (a : Addr) (vs : List V) (rows : List (List Nat)), xs = [.ref a] ∧ H a = some (.lst vs) ∧ TL H vs rows ∧ (∀ q ∈ rows, q ≠ []) ∧ SrtTo rows H Q) := by
  intro pins s σ H xs us Q I r h
  obtain ⟨a, vs, rows, rfl, ha, htl, hne, q⟩ := h
  obtain ⟨u, rfl, rx⟩ := vals1 r
  cases rx
  obtain ⟨z, its, n, rv, ho⟩ := (show ObjOk X.prog X.w H s.heap a (.lst vs) from I.hok a _ ha)
  refine sorted_rows I hu (fun R E hR => ?_) rv htl hne (by rw [← htl.1]; exact z) q
  refine wpAny_collect_seq a (.inl rfl) ho rfl rfl (fun h' k => hR h' _ k) ?_
  show its.toArray.size ≤ _
  rw [List.size_toArray, ← rv.length]
  exact z
/-- sorted(d), d a dict by tuples of small numbers -/
theorem cr_sortedTD {X : Cx} (hcalm : X.calm = true) (hu : X.A.units + 64 < cLine) : CallR X (.builtin "sorted") (fun xs H Q => ∃ (a : Addr) (l : List (List Nat × V)), xs = [.ref a] ∧ H a = some (.dT (gT l)) ∧ (∀ q ∈ l, q.1 ≠ []) ∧ SrtTo (l.map (·.1)) H Q) := by
  intro pins s σ H xs us Q I r h
  obtain ⟨d, l, rfl, hd, hne, q⟩ := h
  obtain ⟨u, rfl, rx⟩ := vals1 r
  cases rx
  obtain ⟨z, hs, ks, pr, o, es, ep, ho, hx, hdt, he, hn⟩ := (show ObjOk X.prog X.w H s.heap d (.dT (gT l)) from I.hok d _ hd)
  have l1 : es.size = ks.length := size_of_entries he
  have l2 : (gT l).length = ks.length := Paired.length pr
  have l3 : l.length = ks.length := by rw [← gT_len]; exact l2
  have hkv : ∀ (i : Nat) (y : List Key × Addr × Value), ks[i]? = some y → ∃ p, l[i]? = some p ∧ H y.2.1 = some (.tup (tI p.1)) := fun i y hy => by
    obtain ⟨x, hx1, hx2, hx3, _⟩ := DX.pget pr hy
    unfold gT at hx1
    rw [List.getElem?_map] at hx1
    cases e : l[i]? with
    | none => rw [e] at hx1; cases hx1
    | some p =>
      rw [e] at hx1
      cases hx1
      exact ⟨p, rfl, by rw [← kN_kV]; exact hx3⟩
  have rv : Vals (ks.map fun x => V.ref x.2.1) (ks.map fun x => Value.ref x.2.1) := by
    have z := vals_refs (ks.map fun x => x.2.1)
    rw [List.map_map, List.map_map] at z
    exact z
  refine sorted_rows (vs := ks.map fun x => V.ref x.2.1) I hu (fun R E hR => ?_) rv ⟨by rw [List.length_map, List.length_map, l3], fun i v e => ?_⟩ (fun p hp => ?_) (by rw [List.length_map, ← gT_len]; exact z) q
  · refine PySem.W.kdu_collect (A := X.A.in1) (kdl_raw hs hx hdt) (I.ok.hd hcalm) ho (by omega) fun h' tk acc k it => ?_
    have ea : acc.toList = ks.map fun x => Value.ref x.2.1 := by
      have hl : acc.toList.length = ks.length := by rw [Array.length_toList, it.1]; exact l1
      apply List.ext_getElem?
      intro j
      rw [List.getElem?_map]
      cases hj : acc.toList[j]? with
      | none =>
        have h1 := List.getElem?_eq_none_iff.mp hj
        rw [List.getElem?_eq_none (by omega)]
        all_goals rfl
      | some v =>
        obtain ⟨en, hen, hv⟩ := it.2 j v (by rw [← Array.getElem?_toList]; exact hj)
        have qe := entry_at he j
        rw [hen] at qe
        cases hb : ks[j]? with
        | none =>
          rw [hb] at qe
          exact nomatch (show some en = none from qe)
        | some b =>
          rw [hb] at qe
          have e2 : en = entryOfKey (tupleKind (mixKind X.prog X.w)) b := Option.some.inj qe
          rw [hv, e2]
          all_goals rfl
    rw [ea]
    exact hR h' tk k
  · rw [List.getElem?_map] at e
    cases e2 : ks[i]? with
    | none => rw [e2] at e; cases e
    | some y =>
      rw [e2] at e
      cases e
      obtain ⟨p, hp, hp2⟩ := hkv i y e2
      exact ⟨p.1, by rw [List.getElem?_map, hp]; rfl, y.2.1, rfl, hp2⟩
  · obtain ⟨b, hb, rfl⟩ := List.mem_map.mp hp
    exact hne b hb
/-! ### sorted(t), t a tuple of small numbers -/
theorem each_nats : ∀ {ns : List Nat} {us : List Value}, Vals (tI ns) us → EachIs (fun u (n : Nat) => ∃ t, u = Value.int (n : Int) t) us ns
  | [], _, r => by
    have r' : Vals [] _ := r
    cases r'
    exact .nil
  | n :: ns, _, r => by
    rw [tI_cons] at r
    cases r with
    | cons r1 t => exact .cons r1 (each_nats t)
theorem nats_each : ∀ {ns : List Nat} {us : List Value}, EachIs (fun u (n : Nat) => ∃ t, u = Value.int (n : Int) t) us ns → Vals (tI ns) us
  | [], _, r => by
    cases r
    exact .nil
  | n :: ns, _, r => by
    cases r with
    | cons r1 t =>
      rw [tI_cons]
      exact .cons r1 (nats_each t)
theorem cr_sortedTup {X : Cx} (K : PySem.W.Frag) (hu : X.A.units + 64 < cLine) (hK : X.K = K := by rfl) : CallR X (.builtin "sorted") (fun xs H Q => ∃ (a : Addr) (ns : List Nat), xs = [.ref a] ∧ SqT K H a (tI ns) ∧ ∀ (p : Addr) (ns' : List Nat), H p = none → ns'.Perm ns → ns'.Pairwise (· ≤ ·) → Q (.ref p) (upd H p (.lst (tI ns')))) := by
  subst hK
  intro pins s σ H xs us Q I r h
  obtain ⟨a, ns, rfl, ha, q⟩ := h
  obtain ⟨u, rfl, rx⟩ := vals1 r
  cases rx
  obtain ⟨its, rv, ⟨o, ho, hcl, n, hd⟩, z⟩ := I.tuple ha
  have ee := each_nats rv
  refine sorted_of (bs := ns) (enc := fun n : Nat => PyData.int (n : Int)) (R := fun u (n : Nat) => ∃ t, u = Value.int (n : Int) t) (vs := its) (fun R E hR => ?_) ee (ee.mono fun u n ⟨t, e⟩ => by rw [e]; exact .int _ _) (AllAlike.of fun b b' => by simp [alike]) (Sortable.others fun b => ⟨(fun e => nomatch e), (fun xs e => nomatch e)⟩)
    (by rw [tI_len] at z; exact z) (fun b _ => ?_) fun h1 h' tk out c k1 k2 hoL eo => ?_
  · refine wpAny_collect_seq a (.inr rfl) ho hcl hd (fun h' k => ?_) ?_
    · have e := hR h' s.toks k
      simpa using e
    · rw [List.size_toArray, ← rv.length]
      exact z
  · show X.A.in1.units + 1 + (PyData.int (b : Int)).depth < cLine
    rw [show (PyData.int (b : Int)).depth = 0 from by simp [PyData.depth]]
    show X.A.units + 1 + 1 < cLine
    omega
  · have I1 : Inv X pins σ H { s with heap := h1, toks := tk } := I.kept k1
    rw [dataLe_int] at eo
    have hpm : (ns.mergeSort fun a b : Nat => decide ((a : Int) ≤ (b : Int))).Perm ns := List.mergeSort_perm _ _
    have hsr : (ns.mergeSort fun a b : Nat => decide ((a : Int) ≤ (b : Int))).Pairwise (fun a b : Nat => decide ((a : Int) ≤ (b : Int)) = true) := by
      refine List.pairwise_mergeSort (fun a b c h1 h2 => ?_) (fun a b => ?_) ns
      · have h1 := of_decide_eq_true h1
        have h2 := of_decide_eq_true h2
        exact decide_eq_true (Int.le_trans h1 h2)
      · by_cases h : (a : Int) ≤ (b : Int)
        · simp [h]
        · have : (b : Int) ≤ (a : Int) := by omega
          simp [this]
    generalize hp : (ns.mergeSort fun a b : Nat => decide ((a : Int) ≤ (b : Int))) = ps at eo hpm hsr
    have hlen : (tI ps).length ≤ sizeLine := by
      rw [tI_len] at z ⊢
      rw [hpm.length_eq]
      exact z
    exact ⟨.ref h1.objs.size, upd H h1.objs.size (.lst (tI ps)), I1.laid (t' := tk) k2 (Nat.le_refl _) (show ObjOk X.prog X.w _ _ _ (.lst (tI ps)) from ⟨hlen, out, c, nats_each eo, hoL⟩), rfl, q _ ps (I1.hok.fresh (Nat.le_refl _)) hpm (hsr.imp fun {a b} h => by have := of_decide_eq_true h; omega)⟩
end Kn
/-! R3 -/
set_option maxHeartbeats 2000000
namespace L2
open PySem PySem.Spec PyProof.Rows
section
variable {X : Cx} {pins : List (Addr × Obj)} {σ : St} {H : Hp} {s : Shared} {d : Addr} {o : Obj}
theorem Inv.frzT2 {kvs : List (List Key × V)} (I : Inv X pins σ H s) (h : H d = some (.frz o (.dT kvs))) :
    (d == sysModules) = false ∧ s.heap.get? d = some o ∧ o.ExactDict ∧ ∃ (es : Array DictEntry) (ep : Nat), o.data = .dict es ep ∧ es.size = kvs.length ∧
      ∀ (i : Nat) (k : List Key) (v : V), kvs[i]? = some (k, v) → ∃ (en : DictEntry) (q : Addr), es[i]? = some en ∧ en.key = .ref q ∧ H q = some (.tup (k.map kV)) ∧ RelV v en.val := by
  obtain ⟨hd, z, hs, xs, pr, o', es, ep, ho, hx, hdt, he, _⟩ := I.hok d _ h
  rw [hd] at ho
  cases ho
  refine ⟨hs, hd, hx, es, ep, hdt, ?_, fun i k v e => ?_⟩
  · have l1 : es.size = xs.length := size_of_entries he
    have l2 : kvs.length = xs.length := Paired.length pr
    omega
  · obtain ⟨b, hb, e1, e2, e3⟩ := paired_get pr e
    have q := entry_at he i
    rw [hb] at q
    exact ⟨_, b.2.1, q, rfl, e2, e3⟩
end
/-- the pairs of a locked dict with tuple keys, each a new tuple -/
def Ititm (d : Addr) (o : Obj) (kvs : List (List Key × V)) : It :=
  ⟨fun i H => H d = some (.frz o (.dT kvs)) ∧ i < kvs.length, fun i H x H' => ∃ (T : Addr) (k : List Key) (v : V) (q : Addr), kvs[i]? = some (k, v) ∧ x = .ref T ∧ H T = none ∧ H q = some (.tup (k.map kV)) ∧ H' = upd H T (.tup [.ref q, v]), fun i H => H d = some (.frz o (.dT kvs)) ∧ kvs.length ≤ i⟩
section
variable {P : Program} {w : World} {K : PySem.W.Frag} {tg : Expr} {d : Addr} {o : Obj} {es : Array DictEntry} {ep : Nat}
theorem turn_itemsT {kvs : List (List Key × V)} {elts : List Expr} {kk : Nat} {tpos : Pos} (it : Addr) (hod : o.data = .dict es ep) :
    Turn P w K (.Tuple elts kk tpos) (Ititm d o kvs) [it] it (fun i h => ∃ ok ov, IsItemIter h it d i kvs.length ep ok ov) where
  mem := by simp
  obj := fun i h st b hb => by
    have e : b = it := by simpa using hb
    subst e
    obtain ⟨ok, ov, e⟩ := st
    exact ⟨_, e, fun v z => nomatch z⟩
  keep := fun i h h' st k => let ⟨ok, ov, e⟩ := st; ⟨ok, ov, k it (by simp) _ e⟩
  item := by
    intro X hP hw hK hc i pins s σ H E I hf st hg
    subst hP hw hK
    obtain ⟨hd, hi⟩ := hg
    obtain ⟨hs, hgd, hx, es', ep', hdt, hsz, ent⟩ := I.frzT2 hd
    obtain ⟨rfl, rfl⟩ := dict_ep hod hdt
    obtain ⟨⟨k, v⟩, hkv⟩ : ∃ p, kvs[i]? = some p := ⟨kvs[i], List.getElem?_eq_getElem hi⟩
    obtain ⟨en, q, hen, hkey, hq, rv⟩ := ent i k v hkv
    obtain ⟨ok, ov, he⟩ := st
    rw [← hsz] at he
    have hlt : it < s.heap.objs.size := Heap.lt_size he
    have hi2 : i < es'.size := by omega
    have hen2 : es'[i] = en := by
      rw [Array.getElem?_eq_getElem hi2] at hen
      exact Option.some.inj hen
    refine wpAny_pyNext_items_item_raw he ⟨o, hgd, hx, hdt⟩ hi2 fun h' ho hT hz hk => ?_
    rw [hen2] at ho hT
    refine ⟨_, rfl, wpAny_letOwnedTupleGo_items (s := { s with heap := h' }) ho fun h'' he' sb => ?_⟩
    have hT2 : h''.get? s.heap.objs.size = some { cls := .type "tuple", data := .seq #[en.key, en.val] } := (sb.2 _ (Nat.ne_of_gt hlt)).trans hT
    have new : ObjOk X.prog X.w (upd H s.heap.objs.size (.tup [.ref q, v])) h'' s.heap.objs.size (.tup [.ref q, v]) :=
      ⟨by show 2 ≤ sizeLine; decide, [en.key, en.val], .cons hkey (.cons rv .nil), ⟨_, hT2, rfl, _, rfl⟩⟩
    have I1 : Inv X pins σ (upd H s.heap.objs.size (.tup [.ref q, v])) { s with heap := h'' } :=
      I.turnedNew (t' := s.toks) (ch := [it]) (fun b ob hb e => (sb.2 b (by simpa using hb)).trans (hk b ob (by simpa using hb) e)) hf (Nat.le_refl _) new
    refine ⟨.ref s.heap.objs.size, _, I1, rfl, ⟨_, k, v, q, hkv, rfl, I.hok.fresh (Nat.le_refl _), hq, rfl⟩, ⟨en.key, en.val, ?_⟩, fun b hb => ?_⟩
    · rw [← hsz]; exact he'
    · have e : b = it := by simpa using hb
      rw [e, upd_ne (Nat.ne_of_lt hlt)]
      exact (hf it (by simp)).1
  done := by
    intro X hP hw hK hc i pins s σ H E I hf st hg
    subst hP hw hK
    obtain ⟨hd, hi⟩ := hg
    obtain ⟨f0, f1, f2, f3, f4, f5⟩ := hf it (by simp)
    obtain ⟨hs, hgd, hx, es', ep', hdt, hsz, ent⟩ := I.frzT2 hd
    obtain ⟨rfl, rfl⟩ := dict_ep hod hdt
    obtain ⟨ok, ov, he⟩ := st
    rw [← hsz] at he
    exact wpAny_pyNext_items_end_raw (I.ok.hd hc) he ⟨o, hgd, hx, hdt⟩ (by omega) fun h' eb => ⟨rfl, I.turned (t' := s.toks) (fun b ob hb e => eb b ob hb e) f0 f1 f3 f4 f5⟩
  self := fun A i s Q E st h => let ⟨_, _, e⟩ := st; PySem.W.kcp_self e h
end
def iItemsT (td : TE) : TI := fun σ H R => td σ H fun x H1 => ∃ d o kvs, x = .ref d ∧ H1 d = some (.frz o (.dT kvs)) ∧ R (Ititm d o kvs) H1
theorem pi_itemsT {X : Cx} {e : Expr} {td : TE} {apos cpos : Pos} {elts : List Expr} {kk : Nat} {tpos : Pos} (he : PE X e td) (hbase : attributeBase e "items" X.env (eval e X.env) = eval e X.env := by rfl) (hline : (apos.endLine == cpos.line) = true := by rfl) :
    PI X (.Tuple elts kk tpos) (.Call (.Attribute e "items" apos) [] [] cpos) (iItemsT td) := by
  refine ⟨fun pins s σ H R I h => ?_⟩
  refine wpAny_Call_method (T := "dict") (id := "dict.items") hbase rfl hline F.plainAttrs_dict F.slot_dict_items F.type_dict_items (thn (he.run pins s σ H _ I h) fun u s1 ⟨x, H1, I1, rx, d, o, kvs, ex, hd, q⟩ => ?_)
  subst ex
  obtain rfl : u = Value.ref d := rx
  obtain ⟨hs, hgd, hx, es, ep, hdt, hsz, ent⟩ := I1.frzT2 hd
  have hraw : s1.heap.DictRaw d es ep := ⟨o, hgd, hx, hdt⟩
  refine ⟨hraw.typeIs, (fun a e => by cases e; exact ⟨o, hgd, hx.2.1⟩), ?_⟩
  have I2 : Inv X pins σ H1 { s1 with heap := s1.heap.push { cls := .type "dict_items", data := .fields #[.ref d] } } := I1.kept (t' := s1.toks) fun b ob q => Heap.get?_push_of_some _ q
  have fin : wpAny (model X.prog X.w) X.A (pyIter (.ref s1.heap.objs.size)) (PIE X pins σ (.Tuple elts kk tpos) R) X.xe { s1 with heap := s1.heap.push { cls := .type "dict_items", data := .fields #[.ref d] } } := by
    refine wpAny_pyIter_items_raw (d := d) (es := es) (ep := ep) ⟨_, Heap.get?_push_size _ rfl, rfl, rfl⟩ (hraw.at fun o e => Heap.get?_push_of_some _ e) (pi_one (tk := s1.toks) I2 _ (turn_itemsT _ hdt) ⟨.none, .none, ?_⟩ q)
    rw [hsz]
    exact Heap.get?_push_size _ rfl
  show wpAny _ _ (callWith cpos (.builtin "dict.items") [.ref d] [] []) _ X.xe s1
  exact method_meetsIn F.slot_dict_items F.entry_dict_items rfl (PySem.evalArgs_none ⟨rfl, hraw.typeIs, F.args_dict_items_1 _, _, meets_dict_items_raw d hs, ⟨es, ep, hraw⟩, fin⟩)
end L2
namespace Kn
open PySem PySem.Spec PyProof.Rows L2
theorem wk_itemsT {H0 : Hp} {d : Addr} {o : Obj} {kvs : List (List Key × V)} (h : H0 d = some (.frz o (.dT kvs))) : Wk (Ititm d o kvs) H0 kvs.length (fun i x H => ∃ (T : Addr) (k : List Key) (v : V) (q : Addr), kvs[i]? = some (k, v) ∧ x = .ref T ∧ H T = some (.tup [.ref q, v]) ∧ H q = some (.tup (k.map kV))) where
  go := fun i H s hi => ⟨s _ _ h, hi⟩
  yld := fun i H x H' s hi hy => by
    obtain ⟨T, k, v, q, h1, h2, h3, h4, rfl⟩ := hy
    exact ⟨same_upd h3, T, k, v, q, h1, h2, upd_same, same_upd h3 _ _ h4⟩
  stop := fun H s => ⟨s _ _ h, Nat.le_refl _⟩
theorem wk_keysT {H0 : Hp} {d : Addr} {o : Obj} {kvs : List (List Key × V)} (h : H0 d = some (.frz o (.dT kvs))) : Wk (Itkt d o kvs) H0 kvs.length (fun i x H => ∃ (k : List Key) (v : V) (q : Addr), kvs[i]? = some (k, v) ∧ x = .ref q ∧ H q = some (.tup (k.map kV))) where
  go := fun i H s hi => ⟨s _ _ h, hi⟩
  yld := fun i H x H' s hi hy => by
    obtain ⟨rfl, k, v, q, h1, h2, h3⟩ := hy
    exact ⟨Same.refl _, k, v, q, h1, h2, h3⟩
  stop := fun H s => ⟨s _ _ h, Nat.le_refl _⟩
/-- locked, walked, unlocked: all that stood stands -/
theorem same_unlock {H H' : Hp} {d : Addr} {u : HO} {od : Obj} (hd : H d = some u) (s : Same (upd H d (.frz od u)) H') : Same H (upd H' d u) := fun b x e => by
  by_cases hb : b = d
  · subst hb
    rw [hd] at e
    cases e
    exact upd_same
  · rw [upd_ne hb]
    exact s b x (by rw [upd_ne hb]; exact e)
end Kn
/-! R5 -/
set_option maxHeartbeats 2000000
namespace Kn
open PySem PySem.Spec PyProof.Rows PySem.W L2 NdefX
/-- what the written part says of such a def -/
structure SupD (P : Program) (K : Fr) (mg : Str → Option Value) (name qual : Str) (params : Arguments) (body : List Stmt) (scope : Scope) (C fB : Addr) (f : Addr) (fd : FuncData) : Prop where
  ex : ∃ (oc dV kV doc pm ct ccl cl : Value) (od an cdd cld : Option Addr) (osl ccs csl : Array (Option Value)) (cda cc : Addr) (vs : Array Value) (cd : ClassData) (file : Str) (tf : Tok),
    fd = fnX name qual params body scope [("__class__", cc)] dV kV doc pm an (.ref cda) ct ∧ K.lookup f = some ⟨oc, od, .func fd, osl⟩ ∧ codeIn K (.ref cda) qual = true ∧ K.lookup cda = some ⟨ccl, cdd, .fields vs, ccs⟩ ∧ vs[2]? = some (.str file tf) ∧ ((P.main.file : Str) == file) = true ∧
    K.lookup cc = some ⟨cl, cld, .cell (some (.ref C)), csl⟩ ∧ clsIn K C = some cd ∧ alongIn K "__init__" ((cd.mro.dropWhile (· != .ref C)).drop 1) = some (some (.ref fB))
  sub : mroIn K C (.ref C) = some true
  any : nsIn K cStatics "thirdparty.any" = some none
  tB : typeIn K (.ref fB) = some (.type "function")
  fB : fnIn K fB = true
  top : (P.main.scope.names.lookup ("super" : Str)).isSome = false
  bl : mg "super" = none
theorem boot_super : bootBuiltins "super" = some (.type "super") := by first | rfl | kernel_rfl | decide +kernel
theorem callWith_metE {M : Model} {K : Fr} {A : Around} {E : Value → Shared → Prop} {s : Shared} {pos : Pos} {q g x : Addr} {first : List Value} {env : Env} {e : Expr} {rest : List Expr} {Q : Value → Shared → Prop} (hf : fnIn K g = true)
    (h : wpAny M A (spliced (backTo pos (starEach (e :: rest) env))) (fun vs s₁ => MethP K q g (.ref x) s₁.heap ∧ wpAny M A (call (.ref q) (first ++ vs)) Q E s₁) E s)
    (he : starEach (e :: rest) env = (false, eval e env) :: starEach rest env := by rfl) (hplain : (backTo pos (starEach rest env)).any (·.1) = false := by rfl) :
    wpAny M A (callWith pos (.ref q) first (backTo pos (starEach (e :: rest) env)) []) Q E s := by
  rw [he] at h ⊢
  refine callWith_of (P := MethP K q g (.ref x)) (by show ((false || (backTo pos (starEach rest env)).any (·.1)) || false) = false; rw [hplain]; rfl) (keeps_M hf) ?_
  exact Calls.evalArgs_plain h
theorem one_look {n z : Str} {a c : Addr} (e : ([(n, a)] : List (Str × Addr)).lookup z = some c) : z = n ∧ a = c := by
  by_cases hz : z = n
  · subst hz
    rw [List.lookup_cons_self] at e
    exact ⟨rfl, Option.some.inj e⟩
  · have hb : (z == n) = false := beq_eq_false_iff_ne.mpr hz
    rw [List.lookup_cons, hb] at e
    cases e
theorem cls_at {K : Fr} {h : Heap} {C : Addr} {cd : ClassData} (X : K.In h) (hC : clsIn K C = some cd) : ∃ oD, h.get? C = some oD ∧ oD.data = .cls cd := by
  unfold clsIn at hC
  split at hC
  · rename_i c d cd' sl ho
    cases hC
    exact ⟨_, X _ _ ho, rfl⟩
  · cases hC
section
variable {P : Program} {w : World} {K : Fr} {mg : Str → Option Value} {base : Heap} {name qual : Str} {params : Arguments} {rest : List Stmt} {scope : Scope} {C fB f : Addr} {fd fdB : FuncData} {N ps : List Str} {k kB i : Nat} {sp spB : Sp} {p0 p1 ap pos spos py : Pos} {y self : Str}
abbrev supEnv (name qual : Str) (params : Arguments) (body : List Stmt) (scope : Scope) (cc cda f L : Addr) : Env := envF ⟨name, qual, params, body, scope, [("__class__", cc)], cda⟩ f L
abbrev supStmt (p0 p1 ap pos spos py : Pos) (y : Str) : Stmt := .Expr (.Call (.Attribute (.Call (.Name "super" p0) [] [] p1) "__init__" ap) [.Name y py] [] pos) spos
theorem sup_ok (S : SupD P K mg name qual params (supStmt p0 p1 ap pos spos py y :: rest) scope C fB f fd) (NS : NScope N ps ["__class__"] scope) (FB : FnOk P w K mg base CX0 kB fB fdB ["self", "machine"] spB) (bB : Binds K fdB ["self", "machine"] [])
    (hself : ps[0]? = some self) (hp : (params.posonlyargs ++ params.args).head?.map (·.arg) = some self) (hks : scope.names.lookup ("super" : Str) = some .globalImplicit) (hyN : N[i]? = some y) (hyv : scope.names.lookup y = some .local) (hkB : kB ≤ k)
    (hyd : (y == ("__debug__" : Str)) = false) (hyc : (y == ("__classdict__" : Str)) = false)
    (hin : ∀ (cc cda L : Addr), interactive (supEnv name qual params (supStmt p0 p1 ap pos spos py y :: rest) scope cc cda f L) = false)
    (hsw : ∀ (cc cda L : Addr), swapsWith (.Call (.Attribute (.Call (.Name "super" p0) [] [] p1) "__init__" ap) [.Name y py] [] pos) none spos.line (supEnv name qual params (supStmt p0 p1 ap pos spos py y :: rest) scope cc cda f L) = pure false)
    (hev : ∀ (cc cda L : Addr), ∃ pl : Sem Bool, eval (.Call (.Attribute (.Call (.Name "super" p0) [] [] p1) "__init__" ap) [.Name y py] [] pos) (supEnv name qual params (supStmt p0 p1 ap pos spos py y :: rest) scope cc cda f L) = (do
      let ov ← attributeBase (.Call (.Name "super" p0) [] [] p1) "__init__" (supEnv name qual params (supStmt p0 p1 ap pos spos py y :: rest) scope cc cda f L) (eval (.Call (.Name "super" p0) [] [] p1) (supEnv name qual params (supStmt p0 p1 ap pos spos py y :: rest) scope cc cda f L))
      standAt ap.atName
      let (f', first) ← holding [ov] (getMethod ov "__init__" pl)
      callWith pos f' first (backTo pos (starEach [.Name y py] (supEnv name qual params (supStmt p0 p1 ap pos spos py y :: rest) scope cc cda f L))) []))
    (len : ∀ vs H Q E, sp vs H Q E → vs.length = ps.length)
    (hbody : ∀ (cc cda : Addr) (A : Around) (outer : List Env) (s : Shared) (H : Hp) (vs : List V) (Q : VK) (E : XK), Room k (A.deeper (supEnv name qual params (supStmt p0 p1 ap pos spos py y :: rest) scope cc cda f s.heap.objs.size)) → sp vs H Q E →
      ∃ (x dx : Addr) (fs : List (Str × V)) (v1 : V) (t : TS), vs[0]? = some (.ref x) ∧ H x = some (.ins C dx fs) ∧ (startF N vs [none])[i]? = some (some v1) ∧
        PSs (ncx CX0 P w K mg base N ⟨name, qual, params, supStmt p0 p1 ap pos spos py y :: rest, scope, [("__class__", cc)], cda⟩ f A outer s H E) rest t ∧
        ∀ q, H q = none → spB [.ref x, v1] (upd H q (.met fB x)) (fun _ H' => t { nx := fun _ H' => Q .non H', rt := Q } (startF N vs [none]) H') E0) :
    FnOk P w K mg base CX0 (k + 1) f fd ps sp := by
  obtain ⟨oc, dV, kV, doc, pm, ct, ccl, cl, od, an, cdd, cld, osl, ccs, csl, cda, cc, fv, cd, file, tf, rfl, lk, hcd, hcode, hvs, hfile, hcell, hC, hal⟩ := S.ex
  refine ⟨len, fun A outer s H args us vs Q E hr e0 hb r hsp => ?_⟩
  have hl := len _ _ _ _ hsp
  have KX : K.In s.heap := e0.mod.kin.keeps fun b o e => (e0.bs b o e).1
  have lim : s.heap.NoLimit := e0.mod.nolimit.keeps fun b o e => (e0.bs b o e).1
  have CA : CellsAt [(("__class__" : Str), cc)] ["__class__"] [none] s.heap H := by
    refine ⟨rfl, fun z c e => ?_, fun x z c e1 e2 => ?_, fun j z e => ?_⟩
    · obtain ⟨_, rfl⟩ := one_look e
      exact ⟨(e0.bs _ _ (e0.mod.kin _ _ hcell)).2, _, ⟨_, KX _ _ hcell, rfl⟩⟩
    · rw [(one_look e1).1, (one_look e2).1]
    · cases j with
      | zero =>
        cases e
        exact ⟨cc, rfl, fun v e => by cases e⟩
      | succ j => simp at e
  refine ks_codeAny_call_defAt (body := supStmt p0 p1 ap pos spos py y :: rest) (binds := ps.zip us) hr.depth (KX _ _ lk) rfl lim (codeRec_of KX hcd) rfl hb NS.nocell (fun ⟨n, _⟩ hy => NS.par n (List.of_mem_zip hy).1) (fun h₁ hns kp => ?_) NS.co NS.gen NS.kind
  obtain ⟨x, dx, fs, v1, t, hx0, hx, hv1, hrest, hq⟩ := hbody cc cda A outer s H vs Q E (hr.deeper _) hsp
  have I : Inv (ncx CX0 P w K mg base N ⟨name, qual, params, supStmt p0 p1 ap pos spos py y :: rest, scope, [("__class__", cc)], cda⟩ f A outer s H E) [] (startF N vs [none]) H { s with heap := h₁, toks := s.toks + (ps.zip us).length } := inv_startN NS hr.hd e0 hl r CA hns kp
  generalize hF : (⟨name, qual, params, supStmt p0 p1 ap pos spos py y :: rest, scope, [("__class__", cc)], cda⟩ : NF) = NFx at *
  have hps : N[0]? = some self := by
    have z : (N.take (ps.length + 1))[0]? = (ps ++ [("__class__" : Str)])[0]? := by rw [← NS.pre]; rfl
    rw [List.getElem?_take_of_lt (Nat.succ_pos _)] at z
    rw [z, List.getElem?_append_left (by cases ps with
      | nil => cases hself
      | cons a b => exact Nat.succ_pos _)]
    exact hself
  have hself0 : (ps.zip us).reverse.lookup self = some (.ref x) := by
    have ndP : ps.Nodup := by
      have q := NS.nd.sublist (List.take_sublist (ps.length + 1) N)
      have e : N.take (ps.length + 1) = ps ++ [("__class__" : Str)] := NS.pre
      rw [e] at q
      exact (List.nodup_append.mp q).1
    obtain ⟨u, hu, ru⟩ := r.get hx0
    cases ru
    exact zip_look ndP hself hu
  obtain ⟨ar, har, harn⟩ : ∃ ar, (params.posonlyargs ++ params.args).head? = some ar ∧ ar.arg = self := by
    cases e : (params.posonlyargs ++ params.args).head? with
    | none => rw [e] at hp; cases hp
    | some ar => rw [e] at hp; exact ⟨ar, rfl, Option.some.inj hp⟩
  obtain ⟨pl, hpl⟩ := hev cc cda s.heap.objs.size
  refine ks_wpAt_execs_cons (ks_wpAt_Expr_any (ks_wpAt_MethodCall (he := hpl) ?_) (hi := hin cc cda s.heap.objs.size) (hs := hsw cc cda s.heap.objs.size))
  have KX1 : K.In h₁ := KX.keeps kp
  obtain ⟨mA, O, _⟩ := ins_get I.hok hx
  obtain ⟨odx, IA, _⟩ := O.look
  obtain ⟨oD, hD1, hD2⟩ := cls_at KX1 hC
  obtain ⟨mb, hb1, hb2⟩ := I.mod.blt
  have hkf : scope.kind = .function := NS.kind
  refine ks_wpAt_super_base (ar := ar) hks (NS.frk _ (List.mem_singleton.mpr rfl)) (by decide) rfl (KX1 _ _ lk) rfl har rfl (KX1 _ _ hcode) rfl hvs hfile S.top ?_
  refine ks_loadName_global hkf hks (Calls.loadGlobal_builtin (mg := mg) (mb := mb) (I.mod.glob.keeps I.bk) S.bl (hb1.keeps I.bk) ((hb2 _ (by decide)).trans boot_super) ⟨rfl, ?_⟩)
  refine wpAny_loadName_free hkf (NS.frk _ (List.mem_singleton.mpr rfl)) rfl ⟨_, KX1 _ _ hcell, rfl⟩ ?_
  refine wpAny_loadName_local hkf (by rw [harn]; exact NS.par _ (List.mem_of_getElem? hself)) hns (by rw [harn]; exact hself0) ?_
  refine ks_wpAny_isType_cls hD1 hD2 ⟨rfl, ?_⟩
  refine ks_wpAny_call_super hD1 hD2 IA.at_ IA.cls (fun c e => ?_) (looks_mroIn KX1 S.sub) (fun h' e k => ?_)
  · have := IA.no
    unfold notCls at this
    rw [e] at this
    exact Bool.noConfusion this
  obtain ⟨of, hof, hofc⟩ : ∃ of, K.lookup fB = some of ∧ of.cls = .type "function" := by
    have ht' : (K.lookup fB).map (·.cls) = some (.type "function") := S.tB
    cases z : K.lookup fB with
    | none => rw [z] at ht'; cases ht'
    | some of => rw [z] at ht'; exact ⟨of, rfl, Option.some.inj ht'⟩
  have KX2 : K.In h' := KX1.keeps k
  have I1 : Inv (ncx CX0 P w K mg base N NFx f A outer s H E) [] (startF N vs [none]) H { s with heap := h', toks := s.toks + (ps.zip us).length } := I.kept k
  obtain ⟨mA2, O2, _⟩ := ins_get I1.hok hx
  obtain ⟨odx2, IA2, _⟩ := O2.look
  refine ks_wpAny_getMethod_super e (looks_opaque KX2 S.any) (l₀ := cd.mro) (fun A Q E s k q => wpAny_bind ((looks_clsIn KX2 hC) A _ E s k (wpAny_pure q))) rfl KX2 hal (KX2 _ _ hof) hofc (ks_ne KX2 IA2 hC) (by decide) ?_
  have I2 : Inv (ncx CX0 P w K mg base N NFx f A outer s H E) [] (startF N vs [none]) (upd H h'.objs.size (.met fB x)) { s with heap := h'.push (methodObj (.ref fB) (.ref x)), toks := s.toks + (ps.zip us).length + 1 } :=
    I1.laid (a := h'.objs.size) (o := .met fB x) (fun b u z => Heap.get?_push_of_some _ z) (Nat.le_refl _) (show (h'.push (methodObj (.ref fB) (.ref x))).get? h'.objs.size = some (methodObj (.ref fB) (.ref x)) from Heap.get?_push_size h' rfl)
  have hq1 := hq h'.objs.size (I1.hok.fresh (Nat.le_refl _))
  have pv1 : PE (ncx CX0 P w K mg base N NFx f A outer s H E) (.Name y py) (tVar i) := pe_var hyN (.inl (by subst hF; exact hyv)) hyd hyc
  have hstar : starEach [.Name y py] (supEnv name qual params (supStmt p0 p1 ap pos spos py y :: rest) scope cc cda f s.heap.objs.size) = (false, eval (.Name y py) (supEnv name qual params (supStmt p0 p1 ap pos spos py y :: rest) scope cc cda f s.heap.objs.size)) :: starEach [] (supEnv name qual params (supStmt p0 p1 ap pos spos py y :: rest) scope cc cda f s.heap.objs.size) := by rfl
  have hA : wpAny (model P w) (A.deeper (envF NFx f s.heap.objs.size)) (spliced (backTo pos (starEach [.Name y py] (envF NFx f s.heap.objs.size)))) (fun zs s2 => ∃ vz H', Inv (ncx CX0 P w K mg base N NFx f A outer s H E) [] (startF N vs [none]) H' s2 ∧ Vals vz zs ∧ (vz = [v1] ∧ H' = upd H h'.objs.size (.met fB x))) (ncx CX0 P w K mg base N NFx f A outer s H E).xe { s with heap := h'.push (methodObj (.ref fB) (.ref x)), toks := s.toks + (ps.zip us).length + 1 } :=
    (pa_cons pv1 pa_nil (hs := by subst hF; exact hstar)).run pos [] { s with heap := h'.push (methodObj (.ref fB) (.ref x)), toks := s.toks + (ps.zip us).length + 1 } (startF N vs [none]) (upd H h'.objs.size (.met fB x)) (fun zs H' => zs = [v1] ∧ H' = upd H h'.objs.size (.met fB x)) I2 ⟨v1, hv1, rfl, rfl⟩
  have hB := callWith_metE (K := K) (M := model P w) (q := h'.objs.size) (g := fB) (x := x) (first := []) (Q := EP (ncx CX0 P w K mg base N NFx f A outer s H E) [] (startF N vs [none]) (fun _ H' => t { nx := fun _ H' => Q .non H', rt := Q } (startF N vs [none]) H')) S.fB (thn hA fun zs s2 hz => by
    obtain ⟨vz, H2, I3, rz, rfl, rfl⟩ := hz
    refine ⟨met_P I3 upd_same, ?_⟩
    have hro : Room kB (A.deeper (envF NFx f s.heap.objs.size)) := (hr.deeper _).mono hkB
    have rz2 : Vals [V.ref x, v1] (Value.ref x :: zs) := .cons rfl rz
    refine wpAny_call (method_call (met_P I3 upd_same).1 (codeAny_mono (FB.run _ _ s2 _ ⟨Value.ref x :: zs, []⟩ (Value.ref x :: zs) [V.ref x, v1] _ E0 hro I3.env0 (by
      have hb2 := bB s2 (Value.ref x :: zs) I3.kIn (by rw [List.append_nil, ← rz2.length]; rfl)
      rw [List.append_nil] at hb2
      exact hb2) rz2 hq1) fun r s' hq => ?_))
    cases r with
    | error e => exact (pass0 [] (startF N vs [none]) _ s2 e s' I3 hq)
    | ok fl =>
      cases fl with
      | ret u => exact I3.after hq
      | next => exact False.elim hq
      | brk => exact False.elim hq
      | cont => exact False.elim hq) (by subst hF; exact hstar) rfl
  subst hF
  refine wpAny_mono hB (fun u s3 h3 => ?_) fun e s3 h3 => h3
  obtain ⟨v, H3, I3, _, q3⟩ := h3
  refine wpAt_of_wpAny (wpAny_mono (hrest.run [] s3 (startF N vs [none]) H3 _ I3 q3) (fun fl s' hs => ?_) fun e s' hs => hs)
  cases fl with
  | ret u =>
    obtain ⟨v, σ', H', J, rv, q⟩ := hs
    exact ⟨v, H', J.os, J.bare, J.base, J.hok, rv, q⟩
  | next =>
    obtain ⟨σ', H', J, q⟩ := hs
    exact ⟨.non, H', J.os, J.bare, J.base, J.hok, rfl, q⟩
  | brk =>
    obtain ⟨_, _, _, q⟩ := hs
    exact False.elim q
  | cont =>
    obtain ⟨_, _, _, q⟩ := hs
    exact False.elim q
end
end Kn
/-! R6 -/
set_option maxHeartbeats 2000000
namespace Kn
open PySem PySem.Spec PyProof.Rows PySem.W L2
section
variable {X : Cx}
theorem special_fn {A : Around} {E : Value → Shared → Prop} {s : Shared} {x C f : Addr} {ox : Obj} {od : Option Obj} {name : Str} {M : Model} {K : Fr} {Q : Option Value → Shared → Prop} (KX : K.In s.heap) (I : InstAt s.heap x ox C od) (hf : findIn K (.ref C) name = some (some (.ref f))) (h : Q (some (.ref f)) s) :
    wpAny M A (specialOf (.ref x) name) Q E s := by
  unfold specialOf
  exact wpAny_bind (I.type.here ((looks_findIn KX hf).here h))
theorem call_reprI {C f : Addr} {fd : FuncData} {k : Nat} {sp : Sp} (hf : findIn X.K (.ref C) "__repr__" = some (some (.ref f))) (hty : typeIn X.K (.ref f) = some (.type "function")) (FB : FnOk X.prog X.w X.K X.mg X.base CX0 k f fd ["self"] sp) (hb : Binds X.K fd ["self"] []) (hr : Room (k + 1) X.A) :
    CallR X (.builtin "repr") (fun xs H Q => ∃ (x dx : Addr) (fs : List (Str × V)), xs = [.ref x] ∧ H x = some (.ins C dx fs) ∧ sp [.ref x] H (fun v H' => ∃ z, v = .str z ∧ Q (.str z) H') E0) := by
  intro pins s σ H xs us Q I r h
  obtain ⟨x, dx, fs, rfl, hx, hsp⟩ := h
  obtain ⟨u, rfl, rx⟩ := vals1 r
  cases rx
  obtain ⟨mA, O, _⟩ := ins_get I.hok hx
  obtain ⟨od, IA, _⟩ := O.look
  obtain ⟨of, hof, hofc⟩ : ∃ of, X.K.lookup f = some of ∧ of.cls = .type "function" := by
    have ht' : (X.K.lookup f).map (·.cls) = some (.type "function") := hty
    cases z : X.K.lookup f with
    | none => rw [z] at ht'; cases ht'
    | some of => rw [z] at ht'; exact ⟨of, rfl, Option.some.inj ht'⟩
  have hcall : wpAny (model X.prog X.w) X.A.in1 (call (.ref f) [.ref x]) (fun r s' => ∃ m tk, r = .str m tk ∧ EP X pins σ Q (.str m tk) s') X.xe s := by
    have rz2 : Vals [V.ref x] [Value.ref x] := .cons rfl .nil
    refine wpAny_call (codeAny_mono (FB.run X.A.in1 X.stack s H ⟨[Value.ref x], []⟩ [Value.ref x] [V.ref x] _ E0 hr.in1 I.env0.in1 (by
      have hb2 := hb s [Value.ref x] I.kIn (by rw [List.append_nil]; rfl)
      rw [List.append_nil] at hb2
      exact hb2) rz2 hsp) fun r s' hq => ?_)
    cases r with
    | error e => exact pass0 pins σ H s e s' I hq
    | ok fl =>
      cases fl with
      | ret u =>
        obtain ⟨v, H', I2, rv, z, rfl, q⟩ := I.after hq
        obtain ⟨tk, rfl⟩ := rv
        exact ⟨z, tk, rfl, .str z, H', I2, ⟨tk, rfl⟩, q⟩
      | next => exact False.elim hq
      | brk => exact False.elim hq
      | cont => exact False.elim hq
  obtain ⟨hh, g, d, t, os⟩ := s
  refine Calls.call_function_entry PySem.F.kind_repr PySem.F.plain_repr PySem.F.entry_repr (PySem.F.args_repr1 _) ?_
  unfold Builtin.«repr»
  refine wpAny_bind (m := oneArg "repr" _) (wpAny_pure ?_)
  refine wpAny_bind (wpAny_cRoomFor (by have := hr.in1.un; omega) ?_)
  refine wpAny_bind (special_fn I.kIn IA hf ?_)
  show wpAny _ _ (if (some (Value.ref f)).isNone = true then _ else _) _ _ _
  rw [if_neg (by simp)]
  refine wpAny_bind (m := callSpecialIfBound? (.ref x) (Str.ofString "__repr__") _) ?_
  have hfo : hh.get? f = some of := I.kIn _ _ hof
  simp only [callSpecialIfBound?, bindSpecialIfBound?]
  refine wpAny_holding (wpAny_bind (wpAny_bind (special_fn I.kIn IA hf ?_)))
  refine wpAny_bind (wpAny_askSetting (wpAny_ite ?_))
  have fin : wpAny (model X.prog X.w) X.A.in1 (call (.ref f) ([.ref x] ++ []) >>= fun v => pure (some v)) (fun r s' => ∃ m tk, r = some (.str m tk) ∧ EP X pins σ Q (.str m tk) s') X.xe ⟨hh, g, d, t, os⟩ :=
    wpAny_bind (wpAny_mono hcall (fun v s' ⟨m, tk, e, q⟩ => wpAny_pure ⟨m, tk, by rw [e], q⟩) fun _ _ h' => h')
  split
  · refine wpAny_bind (wpAny_bindSpecial_def (s := ⟨hh, g, d, t, os⟩) hfo hofc (wpAny_pure ?_))
    refine wpAny_mono fin (fun r s' hr => ?_) fun _ _ z => z
    obtain ⟨m, tk, rfl, q⟩ := hr
    refine wpAny_bind (wpAny_isInstance (typeIs_str _ _ _) isSubtype_str_str ?_)
    first
      | exact wpAny_pure ⟨_, rfl, q⟩
      | (rw [if_pos rfl]; exact wpAny_pure ⟨_, rfl, q⟩)
      | (simp only [if_true]; exact wpAny_pure ⟨_, rfl, q⟩)
  · refine wpAny_tryCatch (wpAny_bind (wpAny_bindSpecial_def (s := ⟨hh, g, d, t, os⟩) hfo hofc (wpAny_pure ?_)))
    refine wpAny_mono fin (fun r s' hr => ?_) fun _ _ z => z
    obtain ⟨m, tk, rfl, q⟩ := hr
    refine wpAny_bind (wpAny_isInstance (typeIs_str _ _ _) isSubtype_str_str ?_)
    first
      | exact wpAny_pure ⟨_, rfl, q⟩
      | (rw [if_pos rfl]; exact wpAny_pure ⟨_, rfl, q⟩)
      | (simp only [if_true]; exact wpAny_pure ⟨_, rfl, q⟩)
/-- t.index(x), ints, the first place -/
theorem flat_ints (ys : List Nat) : (tI ys).all flatV = true := by
  unfold tI
  rw [List.all_map]
  exact List.all_eq_true.mpr fun _ _ => rfl
theorem mt_tup_indexI (K : Fr) (hK : X.K = K := by rfl) : MtR X "tuple.index" (fun x xs H Q => ∃ p, ∃ ys : List Nat, ∃ z : Nat, x = .ref p ∧ xs = [.int (z : Int)] ∧ SqT K H p (tI ys) ∧ z ∈ ys ∧ Q (.int ((ys.idxOf z : Nat) : Int)) H) := by
  subst hK
  intro pins s σ H x xs v us Q I rx rs h
  obtain ⟨p, ys, z, rfl, rfl, hq, hz, q⟩ := h
  cases rx
  obtain ⟨u, rfl, t, rfl⟩ := vals1 rs
  obtain ⟨its, r, pl, _⟩ := I.tuple hq
  obtain ⟨⟨cls, dd, dt, sl⟩, ho, hc, n, hd⟩ := pl
  simp only at hc hd
  subst hc
  subst hd
  have hl : its.toArray.size = ys.length := by rw [List.size_toArray, ← r.length, tI_len]
  have hj : ys.idxOf z < its.toArray.size := by rw [hl]; exact List.idxOf_lt_length_of_mem hz
  have at' : ∀ (m : Nat) (hm : m < its.toArray.size), ∃ (y : Nat) (t' : Tok), ys[m]? = some y ∧ its.toArray[m] = Value.int (y : Int) t' := fun m hm => by
    have hm' : m < ys.length := by rw [← hl]; exact hm
    obtain ⟨w, hw, t', hw'⟩ := r.get (i := m) (x := .int (ys[m] : Int)) (tI_at (List.getElem?_eq_getElem hm'))
    refine ⟨ys[m], t', List.getElem?_eq_getElem hm', ?_⟩
    have e := (List.getElem?_eq_some_iff.mp hw).2
    rw [← hw', ← e]
    simp
  refine call_meets PySem.F.slot_tuple_index ⟨_, ho, rfl⟩ PySem.F.entry_tuple_index (PySem.F.args_tuple_index_2 _ _) (TI.tuple_indexAt p its.toArray n dd sl (.int (z : Int) t) (eqU (.int (z : Int))) (ys.idxOf z) hj ?_ ?_)
    ⟨ho, fun w hw => mem_eqAt (x := .int (z : Int)) ⟨t, rfl⟩ rfl r (flat_ints ys) w (by simpa using hw), ⟨.int ((ys.idxOf z : Nat) : Int), H, I.tok _, ⟨_, rfl⟩, q⟩⟩
  · obtain ⟨y, t', h1, h2⟩ := at' _ hj
    rw [idx_get hz] at h1
    cases h1
    rw [h2]
    show decide ((z : Int) = (z : Int)) = true
    exact decide_eq_true rfl
  · intro m hm hmj
    obtain ⟨y, t', h1, h2⟩ := at' m hm
    rw [h2]
    show decide ((y : Int) = (z : Int)) = false
    refine decide_eq_false fun e => ?_
    have e' : y = z := by omega
    subst e'
    exact absurd (List.not_of_lt_findIdx (p := fun a => a == y) (i := m) hmj) (by
      have h3 := (List.getElem?_eq_some_iff.mp h1).2
      simp [h3])
/-! ### len(set(t)) -/
def tLenSetT (K : Fr) (ta : TE) : TE := fun σ H Q => ta σ H fun x H1 => ∃ (l : Addr) (ns : List Nat), x = .ref l ∧ SqT K H1 l (tI ns) ∧ ns.length ≤ 4000 ∧ ∀ c : Nat, c ≤ ns.length → (c = ns.length ↔ ns.Nodup) → Q (.int (c : Nat)) H1
theorem nodup_of {α : Type} [DecidableEq α] : ∀ {ks l : List α}, ks.Nodup → (∀ x ∈ ks, x ∈ l) → l.length ≤ ks.length → l.Nodup
  | [], l, _, _, h => by
    have : l = [] := List.eq_nil_of_length_eq_zero (by simpa using h)
    rw [this]
    exact List.nodup_nil
  | x :: r, l, hk, hs, h => by
    obtain ⟨h1, h2⟩ := List.nodup_cons.mp hk
    have hx : x ∈ l := hs x List.mem_cons_self
    have hl : (l.erase x).length = l.length - 1 := List.length_erase_of_mem hx
    have hr : ∀ y ∈ r, y ∈ l.erase x := fun y hy => (List.mem_erase_of_ne (fun (e : y = x) => h1 (e ▸ hy))).mpr (hs y (List.mem_cons_of_mem _ hy))
    have hlr : (l.erase x).length ≤ r.length := by
      rw [List.length_cons] at h
      omega
    have hn := nodup_of h2 hr hlr
    have hnx : x ∉ l.erase x := fun hm => h1 (all_met h2 hr hlr x hm)
    exact (List.perm_cons_erase hx).nodup_iff.mpr (List.nodup_cons.mpr ⟨hnx, hn⟩)
theorem dedup_len {l ks : List Int} (hk : ks.Nodup) (h : ∀ x, x ∈ ks ↔ x ∈ l) : ks.length ≤ l.length ∧ (ks.length = l.length ↔ l.Nodup) := by
  have h1 : ks.length ≤ l.length := len_sub hk fun x hx => (h x).mp hx
  exact ⟨h1, fun e => nodup_of hk (fun x hx => (h x).mp hx) (by omega), fun hl => Nat.le_antisymm h1 (len_sub hl fun x hx => (h x).mpr hx)⟩
theorem nd_ints {ns : List Nat} : (ns.map fun n : Nat => (n : Int)).Nodup ↔ ns.Nodup := by
  refine ⟨fun h => ?_, fun h => map_nodup h fun x _ y _ e => by omega⟩
  unfold List.Nodup at h ⊢
  rw [List.pairwise_map] at h
  exact h.imp fun {a b} h e => h (by rw [e])
theorem ints_nats : ∀ {ns : List Nat} {us : List Value}, Vals (tI ns) us → IntsAre us (ns.map fun n : Nat => (n : Int))
  | [], _, r => by
    have r' : Vals [] _ := r
    cases r'
    exact .nil
  | n :: ns, _, r => by
    rw [tI_cons] at r
    cases r with
    | cons r1 t =>
      obtain ⟨k, rfl⟩ := r1
      exact .cons (n : Int) k (ints_nats t)
theorem pe_lenSetT {a : Expr} {ta : TE} {p p2 q pos : Pos} (K : Fr) (hc : X.calm = true) (hg : Gl X "len") (hm : X.mg "len" = none) (hg2 : Gl X "set") (hm2 : X.mg "set" = none) (ha : PE X a ta)
    (na : starEach [a] X.env = (false, eval a X.env) :: starEach [] X.env := by rfl) (hK : X.K = K := by rfl) : PE X (.Call (.Name "len" p) [.Call (.Name "set" p2) [a] [] q] [] pos) (tLenSetT K ta) := by
  subst hK
  refine ⟨fun pins s σ H Q I h => ?_⟩
  refine Call_ (ld_blt I hg hm PySem.boot_len ?_)
  refine PyProof.Rows.callWith_builtin1 (PyProof.Rows.args_cons ?_ rfl) rfl rfl
  refine Call_ (ld_blt I hg2 hm2 PyProof.Rows.boot_set ?_)
  refine PyProof.Rows.callWith_type1 (PyProof.Rows.args_cons (thn (ha.run pins s σ H _ I h) fun v s1 ⟨x, H1, I1, r1, q1⟩ => PyProof.Rows.args_nil ?_) na) na rfl
  obtain ⟨l, ns, rfl, hq, h1, q1⟩ := q1
  cases r1
  obtain ⟨its, r, pl, hz⟩ := I1.tuple hq
  refine call_set_tupI (ns.map fun n : Nat => (n : Int)) (I1.ok.hd hc) (show s1.heap.IsTuple l its.toArray from pl) (by simpa using ints_nats r) (by rw [List.length_map]; unfold scanBound; omega) fun h' tk c hS hcn hk => ?_
  refine PyProof.Rows.args_nil ?_
  obtain ⟨o, es, ep, t, ho, hex, hd, _, hnd, hS2, _, hf, hn, _⟩ := hS
  have I2 : Inv X pins σ H1 { s1 with heap := h', toks := tk } := I1.kept hk
  have hdl := dedup_len hnd (l := ns.map fun n : Nat => (n : Int)) fun x => (hS2 x).symm.trans (by rw [decide_eq_true_iff])
  rw [List.length_map, List.length_map, Array.length_toList, hn, nd_ints] at hdl
  refine call_len_set ho hex hd hf (by rw [hn]; omega) ⟨.int (c : Nat), H1, I2.tok _, ⟨_, by rw [hn]⟩, q1 c hdl.1 hdl.2⟩
end
end Kn
/-! R7 -/
set_option maxHeartbeats 2000000
namespace Kn
open PySem PySem.Spec PyProof.Rows PySem.W L2
/-! ### words: small letters by their numbers -/
def txt (w : List Nat) : Str := ⟨(w.map (· + 97)).toArray⟩
theorem txt_len (w : List Nat) : (txt w).length = w.length := by
  show (w.map (· + 97)).toArray.size = _
  rw [List.size_toArray, List.length_map]
theorem txt_app (u v : List Nat) : txt u ++ txt v = txt (u ++ v) := by
  show (⟨(u.map (· + 97)).toArray ++ (v.map (· + 97)).toArray⟩ : Str) = _
  unfold txt
  rw [List.map_append]
  simp
theorem txt_inj {u v : List Nat} (h : txt u = txt v) : u = v := by
  have h1 : (u.map (· + 97)).toArray = (v.map (· + 97)).toArray := congrArg Str.cps h
  have h2 : u.map (· + 97) = v.map (· + 97) := by simpa using h1
  exact List.map_inj_right (fun x y e => by omega) |>.mp h2
theorem signs_txt (w : List Nat) : signs (txt w) = w.map fun i => V.str (txt [i]) := by
  unfold signs txt
  simp [List.map_map]
theorem txt_nil : txt [] = Str.empty := rfl
section
variable {X : Cx}
theorem fold_rep (a : Array Nat) : ∀ (n : Nat) (acc : List Nat), ((List.replicate n a).foldl (· ++ ·) acc.toArray) = (acc ++ (List.replicate n a.toList).flatten).toArray
  | 0, acc => by simp
  | n + 1, acc => by
    rw [List.replicate_succ, List.foldl_cons, List.replicate_succ, List.flatten_cons]
    have e : acc.toArray ++ a = (acc ++ a.toList).toArray := by
      apply Array.toList_inj.mp
      simp
    rw [e, fold_rep a n]
    simp
/-- word * g -/
theorem op_repS : OpR X (binaryOp .Mult) (fun x y H Q => ∃ (w : List Nat) (g : Nat), x = .str (txt w) ∧ y = .int (g : Int) ∧ 1 ≤ g ∧ g ≤ 1000 ∧ w.length * g ≤ 1000000 ∧ Q (.str (txt (List.replicate g w).flatten)) H) := by
  intro pins s σ H x y v u Q I rx ry h
  obtain ⟨w, g, rfl, rfl, h1, h2, h3, q⟩ := h
  obtain ⟨t, rfl⟩ := rx
  obtain ⟨t', rfl⟩ := ry
  have e0 : (List.replicate (Int.toNat (g : Int)) (txt w).cps).foldl (· ++ ·) #[] = (txt (List.replicate g w).flatten).cps := by
    rw [Int.toNat_natCast]
    have e := fold_rep (txt w).cps g []
    rw [List.nil_append] at e
    refine e.trans ?_
    show _ = ((List.replicate g w).flatten.map (· + 97)).toArray
    rw [List.map_flatten, List.map_replicate]
    unfold txt
    simp
  refine PySem.P.mul_str (by rw [decide_eq_false (by omega), decide_eq_false (by omega)]; rfl) (fun _ _ => ?_) (fun _ _ => ?_) ?_
  · rw [txt_len]
    have a1 : ((w.length : Nat) : Int) ≤ 1000000 := by
      have : w.length ≤ w.length * g := Nat.le_mul_of_pos_right _ h1
      omega
    have a2 : (1000000 : Int) ≤ (2 ^ 63 - 1) / (g : Int) := Int.le_ediv_of_mul_le (by omega) (by omega)
    omega
  · rw [txt_len, Int.toNat_natCast]
    show decide (w.length * g > sizeLine) = false
    exact decide_eq_false (Nat.not_lt.mpr (szl h3))
  · rw [if_neg (by omega)]
    split
    · rename_i hb
      have ew : (List.replicate g w).flatten = w := by
        rcases Bool.or_eq_true_iff.mp hb with hb | hb
        · have hg : (g : Int) = 1 := beq_iff_eq.mp hb
          have hg : g = 1 := by omega
          subst hg
          simp
        · have hw : (txt w).length = 0 := beq_iff_eq.mp hb
          rw [txt_len] at hw
          have hw : w = [] := List.eq_nil_of_length_eq_zero hw
          subst hw
          simp
      rw [ew] at q
      exact ⟨.str (txt w), H, I, ⟨t, rfl⟩, q⟩
    · refine ⟨?_, ⟨.str (txt (List.replicate g w).flatten), H, I.tok _, ⟨s.toks, ?_⟩, q⟩⟩
      · show ((List.replicate (Int.toNat (g : Int)) (txt w).cps).foldl (· ++ ·) #[]).size ≤ sizeLine
        rw [e0]
        show (txt _).length ≤ sizeLine
        rw [txt_len, List.length_flatten, List.map_replicate, List.sum_replicate_nat]
        exact szl (by rw [Nat.mul_comm]; exact h3)
      · rw [e0]
/-! ### xs[::g], the length a multiple of g -/
def tStepL (K : Fr) (te tg : TE) : TE := fun σ H Q => te σ H fun x H1 => ∃ a xs, x = .ref a ∧ SqL K H1 a xs ∧ tPart tg σ H1 fun o H2 => H2 = H1 ∧ ∃ g m : Nat, o = some (g : Int) ∧ 1 ≤ g ∧ xs.length = m * g ∧ ∀ p ys, H1 p = none → ys.length = m → (∀ i, i < m → ys[i]? = xs[i * g]?) → Q (.ref p) (upd H1 p (.lst ys))
theorem pick_step {its : Array Value} {g m : Nat} (hg : 1 ≤ g) (hm : its.size = m * g) : slicePick its none none (some (g : Int)) = ((List.range m).filterMap fun i => its[i * g]?).toArray := by
  have hb : sliceBounds none none (some (g : Int)) its.size = (0, (its.size : Int), (g : Int)) := by
    have : ((g : Int) > 0) := by omega
    unfold sliceBounds
    simp only [Option.getD_some, this, if_true]
  unfold slicePick
  rw [hb]
  show ((sliceRange 0 (its.size : Int) (g : Int)).filterMap (its[·]?)).toArray = _
  have hr : sliceRange 0 (its.size : Int) (g : Int) = (List.range m).map fun i => i * g := by
    unfold sliceRange
    rw [if_pos (show (g : Int) > 0 by omega)]
    have hc : (if (0 : Int) < (its.size : Int) then ((its.size : Int) - 0 + (g : Int) - 1) / (g : Int) else 0).toNat = m := by
      by_cases h0 : (0 : Int) < (its.size : Int)
      · rw [if_pos h0]
        have e : ((its.size : Int) - 0 + (g : Int) - 1) = ((g : Int) - 1) + (m : Int) * (g : Int) := by
          rw [hm, Int.natCast_mul]
          omega
        rw [e, Int.add_mul_ediv_right _ _ (by omega), Int.ediv_eq_zero_of_lt (by omega) (by omega)]
        omega
      · rw [if_neg h0]
        have : its.size = 0 := by omega
        rw [this] at hm
        rcases Nat.mul_eq_zero.mp hm.symm with h | h
        · exact h.symm
        · omega
    show (List.range (if (0 : Int) < (its.size : Int) then ((its.size : Int) - 0 + (g : Int) - 1) / (g : Int) else 0).toNat).map _ = _
    rw [hc]
    refine List.map_congr_left fun i _ => ?_
    show (0 + (g : Int) * (i : Int)).toNat = i * g
    rw [Int.zero_add, ← Int.natCast_mul, Int.toNat_natCast, Nat.mul_comm]
  rw [hr, List.filterMap_map]
  rfl
theorem range_filter {α : Type} {l : List α} {g m : Nat} (hm : l.length = m * g) (hg : 1 ≤ g) : ∀ k, k ≤ m → ((List.range k).filterMap fun i => l[i * g]?).length = k ∧ ∀ i, i < k → ((List.range k).filterMap fun i => l[i * g]?)[i]? = l[i * g]?
  | 0, _ => ⟨rfl, fun i h => absurd h (Nat.not_lt_zero _)⟩
  | k + 1, hk => by
    obtain ⟨h1, h2⟩ := range_filter hm hg k (Nat.le_of_succ_le hk)
    have hlt : k * g < l.length := by rw [hm]; exact Nat.mul_lt_mul_of_pos_right hk hg
    rw [List.range_succ, List.filterMap_append]
    have e : ([k].filterMap fun i => l[i * g]?) = [l[k * g]] := by
      rw [List.filterMap_cons, List.getElem?_eq_getElem hlt]
      rfl
    rw [e]
    refine ⟨by rw [List.length_append, h1]; rfl, fun i hi => ?_⟩
    rcases Nat.lt_or_ge i k with q | q
    · rw [List.getElem?_append_left (by omega)]
      exact h2 i q
    · have : i = k := by omega
      subst this
      rw [List.getElem?_append_right (by omega), h1, Nat.sub_self, List.getElem?_eq_getElem hlt]
      rfl
theorem vals_pick {g m : Nat} {xs : List V} {its : List Value} (r : Vals xs its) : ∀ k, Vals ((List.range k).filterMap fun i => xs[i * g]?) ((List.range k).filterMap fun i => its[i * g]?)
  | 0 => .nil
  | k + 1 => by
    rw [List.range_succ, List.filterMap_append, List.filterMap_append]
    refine (vals_pick (m := m) r k).append ?_
    cases e : xs[k * g]? with
    | none =>
      have h1 : its[k * g]? = none := List.getElem?_eq_none (by rw [← r.length]; exact List.getElem?_eq_none_iff.mp e)
      rw [List.filterMap_cons, List.filterMap_cons, e, h1]
      exact .nil
    | some x =>
      obtain ⟨u, hu, ru⟩ := r.get e
      rw [List.filterMap_cons, List.filterMap_cons, e, hu]
      exact .cons ru .nil
theorem pe_stepL {e eg : Expr} {te tg : TE} {p3 pos : Pos} (K : Fr) (he : PE X e te) (hg : PE X eg tg) (hsub : ∀ a sl : Addr, subscripted (.Slice none none (some eg) p3) false (.ref a) (.ref sl) = operate [.ref a, .ref sl] (getItem (.ref a) (.ref sl)) := by intro _ _; with_unfolding_all rfl) (hK : X.K = K := by rfl) : PE X (.Subscript e (.Slice none none (some eg) p3) pos) (tStepL K te tg) := by
  subst hK
  refine ⟨fun pins s σ H Q I h => ?_⟩
  refine Subscript_ (thn (he.run pins s σ H _ I h) fun v s1 ⟨x, H1, I1, r1, q1⟩ => ?_)
  obtain ⟨a, xs, ex, hx, q⟩ := q1
  subst ex
  cases r1
  have hst : PO X (some eg) (tPart tg) := po_some hg
  refine wpAny_Slice (thn (po_none.run pins s1 σ H1 (fun o H2 => o = none ∧ H2 = H1) I1 ⟨rfl, rfl⟩) fun vl s2 ⟨l, H2, I2, pl, el, e2⟩ => ?_)
  subst el e2
  refine thn (po_none.run pins s2 σ H2 (fun o H3 => o = none ∧ H3 = H2) I2 ⟨rfl, rfl⟩) fun vu s3 ⟨u, H3, I3, pu, eu, e3⟩ => ?_
  subst eu e3
  refine thn (hst.run pins s3 σ H3 (fun o H4 => H4 = H3 ∧ ∃ g m : Nat, o = some (g : Int) ∧ 1 ≤ g ∧ xs.length = m * g ∧ ∀ p ys, H3 p = none → ys.length = m → (∀ i, i < m → ys[i]? = xs[i * g]?) → Q (.ref p) (upd H3 p (.lst ys))) I3 q) fun vs s4 ⟨o, H4, I4, ps, e4, g, m, eo, hg1, hlm, q4⟩ => ?_
  subst eo e4
  have I5 : Inv X pins σ H4 { s4 with heap := s4.heap.push { cls := .type "slice", data := .fields #[vl, vu, vs] } } := I4.kept (t' := s4.toks) fun b ob q => Heap.get?_push_of_some _ q
  obtain ⟨its, r, ht, hz⟩ := I5.list hx
  have hlen := r.length
  show wpAny (model X.prog X.w) X.A (subscriptTail e (.Slice none none (some eg) p3) (.ref a) (.ref s4.heap.objs.size)) (EP X pins σ Q) X.xe { s4 with heap := s4.heap.push { cls := .type "slice", data := .fields #[vl, vu, vs] } }
  refine tail_any (ops := [.ref a, .ref s4.heap.objs.size]) ht.isList.typeIs (PySem.slot_list_getitem.lookup) ?_ (hsub _ _)
  refine wpAny_getItem_list_slice ht.isList (Heap.IsSliceOf.new _ vl vu vs) pl pu ps (fun z => by
    have : (g : Int) = 0 := Option.some.inj z
    omega) ?_ (by rw [List.size_toArray]; omega)
  rw [pick_step hg1 (by rw [List.size_toArray, ← hlen]; exact hlm)]
  simp only [List.getElem?_toArray]
  obtain ⟨h1, h2⟩ := range_filter hlm hg1 m (Nat.le_refl _)
  have hz2 : ((List.range m).filterMap fun i => xs[i * g]?).length ≤ sizeLine := by
    rw [h1]
    have : m ≤ xs.length := by rw [hlm]; exact Nat.le_mul_of_pos_right _ hg1
    omega
  refine ⟨.ref _, _, I5.laid (t' := s4.toks) (o := .lst ((List.range m).filterMap fun i => xs[i * g]?)) (fun b ob q => Heap.get?_push_of_some _ q) (Nat.le_refl _) ?_, rfl, q4 _ _ (I5.hok.fresh (Nat.le_refl _)) h1 h2⟩
  exact ⟨hz2, (List.range m).filterMap fun i => its[i * g]?, 0, vals_pick (m := m) r m, Heap.get?_push_size _ rfl⟩
end
end Kn
/-! R8 -/
set_option maxHeartbeats 2000000
namespace Kn
open PySem PySem.Spec PyProof.Rows PySem.W L2
section
variable {P : Program} {w : World} {A : Around} {s : Shared} {f a c' : Addr} {nm q y : Str} {params : Arguments} {scope : Scope} {clos : List (Str × Addr)} {pm ctv : Value} {p1 p2 p3 p4 p5 : Pos} {k : Nat} {mg mb : Str → Option Value} {its : Array Value} {ns : List Nat}
theorem lam_key (hroom : A.depth < recursionLimit) (ho : s.heap.get? f = some (kla_obj nm q params (.Tuple [.Call (.Name "len" p1) [.Name y p2] [] p3, .Name y p4] k p5) scope clos pm c' ctv)) (hcode : s.heap.CodeRec (.ref c') q)
    (hbind : ∀ v, bindArgs (kla_fn nm q params (.Tuple [.Call (.Name "len" p1) [.Name y p2] [] p3, .Name y p4] k p5) scope clos pm (.ref c') ctv) ⟨[v], []⟩ = pure [(y, v)])
    (hk : scope.kind = .function) (hco : scope.isCoroutine = false) (hgen : scope.isGenerator = false) (hcell : ∀ z ∈ scope.names, z.2 ≠ .cell) (hy : scope.names.lookup y = some .local) (hl : scope.names.lookup ("len" : Str) = some .globalImplicit)
    (hyd : (y == ("__debug__" : Str)) = false) (G : s.heap.Ns mainGlobals mg) (hm : mg "len" = none) (B : s.heap.Ns builtinsNs mb) (hb : mb "len" = some (.builtin "len")) (lim : s.heap.NoLimit) (ht : IsTup s.heap a its) (hn : its.size ≤ sizeLine) (rv : Vals (tI ns) its.toList) :
    wpAny (model P w) A (call (.ref f) [.ref a]) (KeyPure (.tuple [.int (ns.length : Nat), dI ns]) s) (fun _ _ => False) s := by
  refine wpAny_call (kla_callFunE hroom ho rfl hco hgen rfl hcode ?_)
  rw [hbind]
  refine wpAny_pure (wpAny_newFunctionEnv hcell (fun z hz => by rw [List.mem_singleton.mp hz]; exact hy) (fun h₁ hns hsb => ⟨lim.fresh _ hsb, ?_⟩) hk)
  have kp : ∀ b o, s.heap.get? b = some o → h₁.get? b = some o := fun b o e => hsb.extBut b o (Nat.ne_of_lt (Heap.lt_size e)) (Heap.get?_push_of_some _ e)
  refine kla_codeExpr ?_
  have hv : ([(y, Value.ref a)] : List (Str × Value)).reverse.lookup y = some (.ref a) := by
    show ([(y, Value.ref a)] : List (Str × Value)).lookup y = _
    exact List.lookup_cons_self
  refine wpAny_Tuple_spliced ?_
  refine Calls.spliced_cons (Call_ (Calls.Name_function_global hk hl (Calls.loadGlobal_builtin (mg := mg) (mb := mb) (G.keeps kp) hm (B.keeps kp) hb ?_) (by decide)))
  refine PyProof.Rows.callWith_builtin1 (PyProof.Rows.args_cons (wpAny_Name (wpAny_loadName_local hk hy hns hv ?_) hyd) rfl) rfl rfl
  refine PyProof.Rows.args_nil ?_
  have h63 : (its.size : Int) < 2 ^ 63 := by
    have := line63
    omega
  refine len_tuple (ht.keeps kp) h63 ?_
  refine Calls.spliced_cons (wpAny_Name (wpAny_loadName_local hk hy hns hv ?_) hyd)
  refine Calls.spliced_nil ⟨by show 2 ≤ sizeLine; decide, ?_⟩
  have hlen : its.size = ns.length := by
    have e := rv.length
    rw [tI_len, Array.length_toList] at e
    exact e.symm
  refine ⟨_, _, rfl, fun b o e => Heap.get?_push_of_some _ (kp b o e), ?_⟩
  obtain ⟨oT, hoT, hcT, nT, hdT⟩ := ht
  refine .tuple (Heap.get?_push_size _ rfl) rfl rfl ?_
  refine ReadsAll.cons (as := []) (bs := []) ?_ (ReadsAll.cons (as := []) (bs := []) (.tuple (Heap.get?_push_of_some _ (kp _ _ hoT)) hcT hdT (readsAll_vals rv)) .nil)
  rw [hlen]
  exact .int _ _
end
/-! ### the rule -/
theorem key_le {a b : List Nat} (h : dataLe false (fun r : List Nat => PyData.tuple [.int (r.length : Nat), dI r]) a b = true) : a.length ≤ b.length := by
  rw [dataLe_eq] at h
  have h1 : dataLt (.tuple [.int (b.length : Nat), dI b]) (.tuple [.int (a.length : Nat), dI a]) = false := by simpa using h
  rw [dataLt_pair (by simp [alike]) (alike_dI b a)] at h1
  rcases Nat.lt_or_ge b.length a.length with q | q
  · exfalso
    have e1 : PyData.eqv (.int (b.length : Nat)) (.int (a.length : Nat)) = false := by
      simp only [PyData.eqv, decide_eq_false_iff_not]
      have : ((b.length : Nat) : Int) ≠ ((a.length : Nat) : Int) := by omega
      simpa using this
    rw [e1, if_neg Bool.false_ne_true, dataLt_int] at h1
    exact absurd h1 (by rw [decide_eq_true (by omega)]; exact fun z => nomatch z)
  · exact q
abbrev lamBody (p1 p2 p3 p4 p5 : Pos) (k : Nat) (y : Str) : Expr := .Tuple [.Call (.Name "len" p1) [.Name y p2] [] p3, .Name y p4] k p5
/-- sorted(xs, key=lambda one: (len(one), one)), xs a list of tuples of small numbers; T: the tables of code objects -/
def tSortLam (T : List (Addr × Str)) (t : TA) : TE := fun σ H Q => t σ H fun xs H1 => ∃ (a : Addr) (vs : List V) (rows : List (List Nat)), xs = [.ref a] ∧ H1 a = some (.lst vs) ∧ TL H1 vs rows ∧ rows.length ≤ 1000 ∧ LamX.Tabs T H1 ∧
  ∀ (H2 : Hp) (p : Addr) (ys : List V) (rows' : List (List Nat)), LamX.ExtN H1 H2 → LamX.Tabs T H2 → H2 p = none → rows'.Perm rows → rows'.Pairwise (fun a b => a.length ≤ b.length) → TL H2 ys rows' → Q (.ref p) (upd H2 p (.lst ys))
section
variable {X : Cx}
theorem pe_sortLam {T : List (Addr × Str)} {c P : Addr} {e : Expr} {ta : TA} {params : Arguments} {scope : Scope} {p p1 p2 p3 p4 p5 lp kp pos : Pos} {k : Nat} {y : Str} (hu : X.A.units + 64 < cLine) (hr : Room 2 X.A) (hg : Gl X "sorted") (hm : X.mg "sorted" = none) (hml : X.mg "len" = none)
    (ha : PA X [e] ta) (TB : LamX.TabB X.base X.mg c P) (hcode : X.env.code = .ref c) (hT : (P, X.env.qual ++ "<lambda>") ∈ T) (hTu : ∀ p ∈ T, p.1 = P → p.2 = X.env.qual ++ "<lambda>") (hdef : defaultsOf params X.env = ([], []) := by rfl)
    (hfree : ∀ z ∈ scope.names, z.2 ≠ .free) (hcell : ∀ z ∈ scope.names, z.2 ≠ .cell) (hk : scope.kind = .function) (hco : scope.isCoroutine = false) (hgen : scope.isGenerator = false) (hy : scope.names.lookup y = some .local) (hl : scope.names.lookup ("len" : Str) = some .globalImplicit) (hyd : (y == ("__debug__" : Str)) = false)
    (hbind : ∀ (clos : List (Str × Addr)) (pm ctv v : Value) (c' : Addr), bindArgs (kla_fn "<lambda>" (X.env.qual ++ "<lambda>") params (lamBody p1 p2 p3 p4 p5 k y) scope clos pm (.ref c') ctv) ⟨[v], []⟩ = pure [(y, v)])
    (he : backTo pos (starEach [e] X.env) = (false, eval e X.env) :: backTo pos (starEach [] X.env) := by rfl) (hpl : (backTo pos (starEach [e] X.env)).any (·.1) = false := by rfl)
    (hkw : backToKw pos (keywordEach [⟨some "key", .Lambda params (lamBody p1 p2 p3 p4 p5 k y) scope lp, kp⟩] X.env) = [(some ("key" : Str), do let v ← eval (.Lambda params (lamBody p1 p2 p3 p4 p5 k y) scope lp) X.env; standAt pos; pure v)] := by rfl) :
    PE X (.Call (.Name "sorted" p) [e] [⟨some "key", .Lambda params (lamBody p1 p2 p3 p4 p5 k y) scope lp, kp⟩] pos) (tSortLam T ta) := by
  refine ⟨fun pins s σ H Q I h => ?_⟩
  refine wpAny_Call_Name_kw (ld_blt I hg hm PyProof.Rows.Boot.«sorted» ?_ (by decide) (by decide))
  refine PyProof.Rows.callWith_kw (thn (ha.run pos pins s σ H _ I h) fun us s1 ⟨vs, H1, I1, r1, q1⟩ => ?_) he hpl (by rw [hkw]; rfl) (by rw [hkw]; rfl)
  obtain ⟨a, vs, rows, rfl, hH, htl, hz, hTb, q⟩ := q1
  obtain ⟨u, rfl, rx⟩ := vals1 r1
  cases rx
  rw [hkw]
  show wpAny _ _ (evalAll [do let v ← eval (.Lambda params (lamBody p1 p2 p3 p4 p5 k y) scope lp) X.env; standAt pos; pure v]) _ _ _
  refine wpAny_evalAll_cons (wpAny_bind (LamX.lam_make2 I1 TB hcode hT hTu hTb hdef (fun z hz e => absurd e (hfree z hz)) fun f c' pm ctv H2 s2 I2 eN T2 hf hfn hfr hc' => wpAny_bind (wpAny_standAt (wpAny_pure (wpAny_evalAll_nil ?_)))))
  show wpAny (model X.prog X.w) X.A (call (.builtin "sorted") [.ref a] [("key", .ref f)]) (EP X pins σ Q) X.xe s2
  obtain ⟨ht1, ht2⟩ : H2 a = some (.lst vs) ∧ TL H2 vs rows := by
    refine ⟨eN _ _ hH (fun ps z => nomatch z), htl.1, fun i v e => ?_⟩
    obtain ⟨r, h1, b, rfl, h2⟩ := htl.2 i v e
    exact ⟨r, h1, b, rfl, eN _ _ h2 (fun ps z => nomatch z)⟩
  obtain ⟨z, its, n, rv, ho⟩ := (show ObjOk X.prog X.w H2 s2.heap a (.lst vs) from I2.hok a _ ht1)
  have hat : ∀ (i : Nat) (u : Value) (v : V) (q : List Nat), its[i]? = some u → vs[i]? = some v → rows[i]? = some q → RelV v u ∧ Tup H2 v q := fun i u v q e1 e2 e3 => by
    obtain ⟨u', h1, h2⟩ := Vals.get rv e2
    rw [e1] at h1
    cases h1
    obtain ⟨q', h3, h4⟩ := ht2.2 i v e2
    rw [e3] at h3
    cases h3
    exact ⟨h2, h4⟩
  obtain ⟨⟨oc, fv, tq, hoc, hdc, hvc⟩, _, _⟩ := I2.hok c' _ hc'
  obtain ⟨mb, hb1, hb2⟩ := I2.mod.blt
  have hlen2 : (vs.zip rows).length = rows.length := by rw [List.length_zip, ht2.1, Nat.min_self]
  refine sorted_key_data (bs := vs.zip rows) (b := false) (fun b => PyData.tuple [.int (b.2.length : Nat), dI b.2]) (R := fun u b => RelV b.1 u ∧ Tup H2 b.1 b.2) (PySem.IsL.isList ho) (each_zip rv.length.symm ht2.1 fun i u v q e1 e2 e3 => hat i u v q e1 e2 e3)
    (AllAlike.of fun b b' => by
      show alike (.tuple _) (.tuple _) = true
      rw [alike]
      simp only [alikeAll, Bool.and_eq_true]
      exact ⟨by simp [alike], alike_dI _ _, trivial⟩) (Sortable.tuples fun b => ⟨_, _, rfl⟩) (by rw [hlen2]; exact Nat.le_trans hz (by decide)) (fun b _ => ?_) (ksk_s1 _ _) (fun _ => ksk_l1 _ _) (fun _ => ksk_t1 _ _) (fun v b hR _ h tk kp => ?_) fun out c0 h' tk kp hnone hD hlo eo => ?_
  · have hd : (PyData.tuple [.int (b.2.length : Nat), dI b.2]).depth ≤ 2 := by
      simp only [PyData.depth, PyData.depthAll, depth_dI]
      decide
    omega
  · obtain ⟨rvb, tb, e1, e2⟩ := hR
    rw [e1] at rvb
    obtain rfl : v = Value.ref tb := rvb
    obtain ⟨itb, rvt, ⟨oT, hoT, hcT, nT, hdT⟩, zT⟩ := I2.tuple (SqT.of (K := X.K) e2)
    refine lam_key (hr.in1.in1.depth) (kp _ _ hf) ⟨c', oc, fv, tq, rfl, kp _ _ hoc, hdc, hvc⟩ (fun v => hbind _ _ _ v _) hk hco hgen hcell hy hl hyd ((I2.mod.glob.keeps I2.bk).keeps kp) hml ((hb1.keeps I2.bk).keeps kp) ((hb2 _ (by decide)).trans PySem.boot_len) (I2.nolimit.keeps kp) ⟨oT, kp _ _ hoT, hcT, nT, hdT⟩ ?_ (by simpa using rvt)
    rw [List.size_toArray, ← rvt.length]
    exact zT
  · generalize hp : (vs.zip rows).mergeSort (dataLe false fun b => PyData.tuple [.int (b.2.length : Nat), dI b.2]) = bs at eo
    have hpm : bs.Perm (vs.zip rows) := by rw [← hp]; exact List.mergeSort_perm _ _
    have hso : bs.Pairwise (fun a b => a.2.length ≤ b.2.length) := by
      have z := sort_pairwise (sortLe_total (PyProof.Rows.listOrd itemOrd) false fun b : V × List Nat => keyToks (PyData.tuple [.int (b.2.length : Nat), dI b.2])) (vs.zip rows)
      have e : (vs.zip rows).mergeSort (sortLe (PyProof.Rows.listOrd itemOrd) false fun b : V × List Nat => keyToks (PyData.tuple [.int (b.2.length : Nat), dI b.2])) = bs := hp
      rw [e] at z
      exact z.imp fun {a b} h => key_le h
    have hlen : (bs.map (·.1)).length ≤ sizeLine := by rw [List.length_map, hpm.length_eq, hlen2]; exact Nat.le_trans hz (by decide)
    have fresh : H2 (s2.heap.objs.size + 1) = none := I2.hok.fresh (Nat.le_succ _)
    refine ⟨.ref _, upd H2 (s2.heap.objs.size + 1) (.lst (bs.map (·.1))), I2.laid (t' := tk) kp (Nat.le_succ _) (show ObjOk X.prog X.w _ _ _ (.lst (bs.map (·.1))) from ⟨hlen, out, c0, vals_each (eo.mono fun _ _ q => q.1), hD⟩), rfl, q H2 _ _ (bs.map (·.2)) eN T2 fresh ?_ ?_ ?_⟩
    · have z := hpm.map (·.2)
      rw [List.map_snd_zip (by rw [ht2.1]; exact Nat.le_refl _)] at z
      exact z
    · exact List.pairwise_map.mpr hso
    · refine ⟨by rw [List.length_map, List.length_map], fun i v e => ?_⟩
      rw [List.getElem?_map] at e
      cases e2 : bs[i]? with
      | none => rw [e2] at e; cases e
      | some b =>
        rw [e2] at e
        cases e
        refine ⟨b.2, by rw [List.getElem?_map, e2]; rfl, ?_⟩
        have hb : b ∈ vs.zip rows := hpm.mem_iff.mp (List.mem_of_getElem? e2)
        obtain ⟨j, hj, ej⟩ := List.getElem_of_mem hb
        have e' : (vs.zip rows)[j]? = some b := by rw [List.getElem?_eq_getElem hj, ej]
        obtain ⟨e1, e3⟩ := List.getElem?_zip_eq_some.mp e'
        obtain ⟨q', h3, h4⟩ := ht2.2 j b.1 e1
        rw [e3] at h3
        cases h3
        exact h4
end
end Kn
/-! R9 -/
set_option maxHeartbeats 2000000
namespace L2
open PySem PySem.Spec PyProof.Rows
section
variable {X : Cx}
/-- tuple(list): the object is told -/
theorem callTupF (K : PySem.W.Frag) (hK : X.K = K := by rfl) : CallR X (.type "tuple") (fun xs H Q => ∃ p ys, xs = [.ref p] ∧ SqL K H p ys ∧ ∀ l o, H l = none → o.dict = none → Q (.ref l) (upd H l (.frz o (.tup ys)))) := by
  subst hK
  intro pins s σ H xs us Q I r h
  obtain ⟨p, ys, rfl, hq, q⟩ := h
  obtain ⟨u, rfl, rx⟩ := vals1 r
  cases rx
  obtain ⟨its, r', pl, hz⟩ := I.list hq
  have hlen := r'.length
  refine call_tuple_list pl.isList (fun h' kp => ?_) (by simp only [List.size_toArray] <;> omega)
  have I1 : Inv X pins σ H { s with heap := h' } := I.kept (t' := s.toks) kp
  have I2 : Inv X pins σ (upd H h'.objs.size (.frz { cls := .type "tuple", data := .seq its.toArray } (.tup ys))) { s with heap := h'.push { cls := .type "tuple", data := .seq its.toArray } } :=
    I1.laid (t' := s.toks) (fun b o e => Heap.get?_push_of_some _ e) (Nat.le_refl _) (show ObjOk X.prog X.w _ _ _ (.frz _ (.tup ys)) from ⟨Heap.get?_push_size _ rfl, hz, its, r', IsTup.new _ _⟩)
  exact ⟨.ref h'.objs.size, _, I2, rfl, q _ _ (I1.hok.fresh (Nat.le_refl _)) rfl⟩
/-- a tuple display: the object is told -/
def tTupF (t : TA) : TE := fun σ H Q => t σ H fun xs H1 => xs.length ≤ sizeLine ∧ ∀ l o, H1 l = none → o.dict = none → Q (.ref l) (upd H1 l (.frz o (.tup xs)))
theorem pe_tupF {es : List Expr} {t : TA} {pos : Pos} {x1} (h : PA X es t) : PE X (.Tuple es x1 pos) (tTupF t) := by
  refine ⟨fun pins s σ H Q I hq => ?_⟩
  refine wpAny_Tuple_spliced (thn (h.run pos pins s σ H _ I hq) fun us s1 ⟨xs, H1, I1, r, z, q⟩ => ⟨by rw [← r.length]; exact z, ?_⟩)
  have hf : H1 s1.heap.objs.size = none := I1.hok.fresh (Nat.le_refl _)
  refine ⟨.ref s1.heap.objs.size, upd H1 s1.heap.objs.size (.frz { cls := .type "tuple", data := .seq us.toArray } (.tup xs)), I1.laid (t' := s1.toks) (fun b u e => Heap.get?_push_of_some _ e) (Nat.le_refl _) ?_, rfl, q _ _ hf rfl⟩
  exact ⟨Heap.get?_push_size _ rfl, z, us, r, ⟨_, Heap.get?_push_size _ rfl, rfl, _, rfl⟩⟩
/-- t.m(x..), t such a tuple -/
def tBMF (r : V → List V → Hp → VK → Prop) (to : TE) (t : TA) : TE := fun σ H Q => to σ H fun x H1 => (∃ a o xs, x = .ref a ∧ H1 a = some (.frz o (.tup xs)) ∧ o.dict = none) ∧ t σ H1 fun xs H2 => r x xs H2 Q
theorem pe_bmF {id : String} {name : Str} {r : V → List V → Hp → VK → Prop} {o e : Expr} {es : List Expr} {to : TE} {t : TA} {apos cpos : Pos} (pa : PlainAttrs "tuple") (slot : Slot "tuple" name id) (hty : typeOf (.builtin id) = pure (.type "method_descriptor")) (hm : MtR X id r) (ho : PE X o to) (ha : PA X (e :: es) t)
    (hbase : attributeBase o name X.env (eval o X.env) = eval o X.env := by rfl)
    (hfew : ((backTo cpos (starEach (e :: es) X.env)).all (fun x => !x.1) && (backToKw cpos (keywordEach [] X.env)).all (fun x => x.1.isSome)
      && decide ((e :: es).length + ([] : List Keyword).length + (if ([] : List Keyword).isEmpty then 0 else 1) < 30)) = true := by rfl)
    (hline : (apos.endLine == cpos.line) = true := by rfl) (hs : starEach (e :: es) X.env = (false, eval e X.env) :: starEach es X.env := by rfl) (hplain : (backTo cpos (starEach es X.env)).any (·.1) = false := by rfl) :
    PE X (.Call (.Attribute o name apos) (e :: es) [] cpos) (tBMF r to t) := by
  refine ⟨fun pins s σ H Q I h => ?_⟩
  refine wpAny_Call_method_late hbase hfew hline rfl (thn (ho.run pins s σ H _ I h) fun v s1 ⟨x, H1, I1, r1, ⟨a, ob, xs, ex, hob, hdn⟩, q1⟩ => ?_)
  subst ex
  obtain rfl : v = Value.ref a := r1
  obtain ⟨hg, z, its, rv, o2, ho2, hc2, _⟩ := (show ObjOk X.prog X.w H1 s1.heap a (.frz ob (.tup xs)) from I1.hok a _ hob)
  refine ⟨"tuple", id, pa, slot, hty, ⟨o2, ho2, hc2⟩, fun b e => by cases e; exact ⟨ob, hg, hdn⟩, ?_⟩
  have hA := ha.run cpos pins s1 σ H1 _ I1 q1
  rw [hs] at hA ⊢
  refine Calls.callWith_builtin (by show (false || (backTo cpos (starEach es X.env)).any (·.1)) = false; rw [hplain] <;> rfl) (Calls.evalArgs_plain ?_)
  exact thn hA fun us s2 ⟨vs, H2, I2, r2, q2⟩ => hm pins s2 σ H2 (.ref a) vs (.ref a) us Q I2 rfl r2 q2
end
/-! ### dicts with tuples as keys, told or not -/
/-- the told objects forgotten -/
def melt (H : Hp) : Hp := fun b => match H b with
  | some (.frz _ u) => some u
  | x => x
theorem melt_rd {H : Hp} {b : Addr} {ys : List V} (h : Rd H b (.tup ys)) : melt H b = some (.tup ys) := by
  unfold melt
  rcases h with h | ⟨o, h⟩
  · rw [h]
  · rw [h]
theorem rd_melt {H : Hp} {b : Addr} {ys : List V} (h : melt H b = some (.tup ys)) : Rd H b (.tup ys) := by
  unfold melt at h
  cases e : H b with
  | none => rw [e] at h; cases h
  | some u =>
    rw [e] at h
    cases u with
    | frz o v =>
      have h : some v = some (HO.tup ys) := h
      cases h
      exact .inr ⟨o, e⟩
    | _ => exact .inl (e.trans h)
def zO (d : Addr) (od : Obj) : HO := .ext fun h => h.get? d = some od
theorem zO_ok {P : Program} {w : World} {H : Hp} {h : Heap} {d : Addr} {od : Obj} (e : h.get? d = some od) : ObjOk P w H h d (zO d od) := ⟨e, ⟨od, e⟩, fun h1 h2 e1 k => k _ e1⟩
/-- the dict at d is the object od and holds kvs -/
def DZo (P : Program) (w : World) (H : Hp) (d : Addr) (od : Obj) (kvs : List (List Key × V)) : Prop := kvs.length ≤ sizeLine ∧ (d == sysModules) = false ∧ H d = some (zO d od) ∧ ∃ (xs : List (List Key × Addr × Value)) (es : Array DictEntry) (ep : Nat), KT (melt H) kvs xs ∧ od.ExactDict ∧ od.data = .dict es ep ∧ es.toList = xs.map (entryOfKey (tupleKind (mixKind P w))) ∧ (xs.map (·.1)).Nodup
def DZ (P : Program) (w : World) (H : Hp) (d : Addr) (kvs : List (List Key × V)) : Prop := ∃ od, DZo P w H d od kvs
theorem DZo.keeps {P : Program} {w : World} {H H' : Hp} {d : Addr} {od : Obj} {kvs : List (List Key × V)} (h : DZo P w H d od kvs) (hd : H' d = some (zO d od)) (k : ∀ b ys, Rd H b (.tup ys) → Rd H' b (.tup ys)) : DZo P w H' d od kvs := by
  obtain ⟨z, y, _, xs, es, ep, r, h1, h2, h3, h4⟩ := h
  exact ⟨z, y, hd, xs, es, ep, r.keeps fun b ys e => melt_rd (k b ys (rd_melt e)), h1, h2, h3, h4⟩
section
variable {P : Program} {w : World} {H : Hp} {h : Heap} {d : Addr} {kvs : List (List Key × V)}
theorem keyZ {a : Addr} {ks : List Key} (ok : HOk P w H h) (e : Rd H a (.tup (ks.map kV))) : (tupleKind (mixKind P w)).is h ks a := by
  obtain ⟨_, its, r, o, h1, h2, n, h3⟩ := (show ObjOk P w H h a (.tup (ks.map kV)) from rd_of ok e)
  exact ⟨o, its.toArray, n, h1, h2, h3, by simpa using items_are r⟩
theorem dz_of (ok : HOk P w H h) (e : DZ P w H d kvs) : kvs.length ≤ sizeLine ∧ (d == sysModules) = false ∧ ∃ xs, KT (melt H) kvs xs ∧ h.DictOfH (tupleKind (mixKind P w)) d xs := by
  obtain ⟨od, z, y, hd, xs, es, ep, r, h2, h3, h4, h5⟩ := e
  refine ⟨z, y, xs, r, od, es, ep, (show ObjOk P w H h d (zO d od) from ok d _ hd).1, h2, h3, h4, fun x hx => ?_, h5⟩
  have all : ∀ {l : List (List Key × V)} {m : List (List Key × Addr × Value)}, KT (melt H) l m → ∀ x ∈ m, (tupleKind (mixKind P w)).is h x.1 x.2.1 := by
    intro l m q
    induction q with
    | nil => intro x hx; exact nomatch hx
    | @cons p q ps qs hq t ih =>
      intro x hx
      rcases List.mem_cons.mp hx with e | hx
      · subst e
        exact keyZ ok (rd_melt (by rw [← hq.1]; exact hq.2.1))
      · exact ih x hx
  exact all r x hx
end
section
variable {X : Cx} {pins : List (Addr × Obj)} {σ : St} {H : Hp} {s : Shared} {d b : Addr} {y v : V} {u r : Value} {kvs : List (List Key × V)} {k : List Key} {A : Around} {E : Value → Shared → Prop}
theorem dz_get {Q : Value → Shared → Prop} (hu : A.units + 1 < cLine) (I : Inv X pins σ H s) (g : DZ X.prog X.w H d kvs) (eb : Rd H b (.tup (k.map kV))) (l : valV kvs k = some v) (h : ∀ w' s', Inv X pins σ H s' → RelV v w' → Q w' s') :
    wpAny (model X.prog X.w) A (getItem (.ref d) (.ref b)) Q E s := by
  obtain ⟨z, hd, xs, rel, dd⟩ := dz_of I.hok g
  obtain ⟨w', hw, rw'⟩ := RelO.some_of (v := v) (o := (atKey xs k).map (·.2)) (by rw [← l]; exact rel.val k)
  obtain ⟨p, hp, hp2⟩ := Option.map_eq_some_iff.mp hw
  refine wpAny_getItem_heap (tupleKind_room_in1 hu) (keyZ I.hok eb) dd hp ?_
  rw [hp2]
  exact h w' _ (I.tok _) rw'
theorem dz_notIn {Q : Value → Shared → Prop} (hu : A.units + 1 < cLine) (I : Inv X pins σ H s) (g : DZ X.prog X.w H d kvs) (eb : Rd H b (.tup (k.map kV))) (h : ∀ s', Inv X pins σ H s' → Q (.bool (!(valV kvs k).isSome)) s') :
    wpAny (model X.prog X.w) A (compareOp .NotIn (.ref b) (.ref d)) Q E s := by
  obtain ⟨z, hd, xs, rel, dd⟩ := dz_of I.hok g
  refine wpAny_notIn_heap (tupleKind_room_in1 hu) (keyZ I.hok eb) hd dd ?_
  have q := (rel.val k).isSome_eq
  rw [Option.isSome_map] at q
  rw [← q]
  exact h _ (I.tok _)
theorem dz_written {h' : Heap} {t' : Nat} {rv : Value} (I : Inv X pins σ H s) (g : DZ X.prog X.w H d kvs) (eb : Rd H b (.tup (k.map kV))) (ry : RelV v rv) (hl : (putK kvs k v).length ≤ sizeLine)
    {xs : List (List Key × Addr × Value)} (rel : KT (melt H) kvs xs) (hs : Heap.SameBut d s.heap h') (dd' : h'.DictOfH (tupleKind (mixKind X.prog X.w)) d (storedH xs k b rv)) :
    ∃ od, Inv X pins σ (upd H d (zO d od)) { s with heap := h', toks := t' } ∧ DZ X.prog X.w (upd H d (zO d od)) d (putK kvs k v) := by
  obtain ⟨q, es, ep, hq, h2, h3, h4, _, h5⟩ := dd'
  obtain ⟨od0, z0, y0, hd0, _⟩ := g
  refine ⟨q, d_write I (by rw [hd0]; exact True.intro) hs ⟨q, hq⟩ (zO_ok hq), q, hl, y0, upd_same, _, es, ep, (rel.put k (melt_rd eb) ry).keeps fun c ys ec => melt_rd ?_, h2, h3, h4, h5⟩
  rcases rd_melt ec with e | ⟨o, e⟩
  · exact .inl (by rw [upd_ne (ne_of e hd0 (fun z => nomatch z))]; exact e)
  · exact .inr ⟨o, by rw [upd_ne (ne_of e hd0 (fun z => nomatch z))]; exact e⟩
theorem dz_set {Q : Unit → Shared → Prop} (hu : A.units + 1 < cLine) (I : Inv X pins σ H s) (g : DZ X.prog X.w H d kvs) (eb : Rd H b (.tup (k.map kV))) (hl : kvs.length < sizeLine) (rv : RelV v r)
    (h : ∀ od s', Inv X pins σ (upd H d (zO d od)) s' → DZ X.prog X.w (upd H d (zO d od)) d (putK kvs k v) → Q () s') : wpAny (model X.prog X.w) A (setItem (.ref d) (.ref b) r) Q E s := by
  obtain ⟨z, hd, xs, rel, dd⟩ := dz_of I.hok g
  have hz : xs.length ≤ sizeLine := by rw [← Paired.length rel]; exact z
  have hl : (putK kvs k v).length ≤ sizeLine := by have := length_putK kvs k v; omega
  refine wpAny_setItem_heap (hsz := hz) (tupleKind_room_in1 hu) (keyZ I.hok eb) dd fun h' dd' hs => ?_
  obtain ⟨od, I', g'⟩ := dz_written I g eb rv hl rel hs dd'
  exact h od _ I' g'
theorem dz_dictSet {Q : Unit → Shared → Prop} (hu : X.A.units + 1 < cLine) (I : Inv X pins σ H s) (g : DZ X.prog X.w H d kvs) (hl : kvs.length < sizeLine) (eb : Rd H b (.tup (k.map kV))) (ru : RelV (.ref b) u) (rv : RelV v r)
    (h : ∀ od s', Inv X pins σ (upd H d (zO d od)) s' → DZ X.prog X.w (upd H d (zO d od)) d (putK kvs k v) → Q () s') : wpAny (model X.prog X.w) X.A (dictSet d u r) Q E s := by
  cases (show u = Value.ref b from ru)
  obtain ⟨z, hd, xs, rel, dd⟩ := dz_of I.hok g
  have hz : xs.length ≤ sizeLine := by rw [← Paired.length rel]; exact z
  have hl : (putK kvs k v).length ≤ sizeLine := by have := length_putK kvs k v; omega
  refine wpAny_dictSet_heap (hsz := hz) (knd := tupleKind (mixKind X.prog X.w)) (show X.A.units < cLine from Nat.lt_of_succ_lt hu) (keyZ I.hok eb) dd fun h' dd' hs => ?_
  obtain ⟨od, I', g'⟩ := dz_written I g eb rv hl rel hs dd'
  exact h od _ I' g'
theorem dz_typeIs (I : Inv X pins σ H s) (g : DZ X.prog X.w H d kvs) : s.TypeIs (.ref d) "dict" := by
  obtain ⟨_, _, xs, _, dd⟩ := dz_of I.hok g
  exact dd.typeIs
/-- a new dict -/
theorem dz_new {P : Program} {w : World} (hn : (d == sysModules) = false) : DZ P w (upd H d (zO d { cls := .type "dict", data := .dict #[] })) d [] :=
  ⟨_, Nat.zero_le _, hn, upd_same, [], #[], 0, .nil, ⟨rfl, rfl, rfl⟩, rfl, rfl, List.nodup_nil⟩
end
/-! ### rules -/
def tZGet (P : Program) (w : World) (td ty : TE) : TE := fun σ H Q => td σ H fun x H1 => ty σ H1 fun y H2 => ∃ d b kvs k v, x = .ref d ∧ y = .ref b ∧ DZ P w H2 d kvs ∧ Rd H2 b (.tup (k.map kV)) ∧ valV kvs k = some v ∧ Q v H2
def tZNotIn (P : Program) (w : World) (ty td : TE) : TE := fun σ H Q => ty σ H fun y H1 => td σ H1 fun x H2 => ∃ d b kvs k, x = .ref d ∧ y = .ref b ∧ DZ P w H2 d kvs ∧ Rd H2 b (.tup (k.map kV)) ∧ Q (.bl (!(valV kvs k).isSome)) H2
def sZPut (P : Program) (w : World) (td ty tv : TE) : TS := fun D σ H => tv σ H fun v H1 => td σ H1 fun x H2 => ty σ H2 fun y H3 => ∃ d b kvs k, x = .ref d ∧ y = .ref b ∧ DZ P w H3 d kvs ∧ Rd H3 b (.tup (k.map kV)) ∧ kvs.length < sizeLine ∧ ∀ od, DZ P w (upd H3 d (zO d od)) d (putK kvs k v) → D.nx σ (upd H3 d (zO d od))
def tZDisp (P : Program) (w : World) (tk tv : TE) : TE := fun σ H Q => ∀ p, H p = none → tk σ (upd H p (zO p { cls := .type "dict", data := .dict #[] })) fun x H1 => tv σ H1 fun y H2 => H2 p = some (zO p { cls := .type "dict", data := .dict #[] }) ∧ ∃ b k, x = .ref b ∧ Rd H2 b (.tup (k.map kV)) ∧ ∀ od, DZ P w (upd H2 p (zO p od)) p [(k, y)] → Q (.ref p) (upd H2 p (zO p od))
section
variable {X : Cx} {o i e value : Expr} {pos pos' tpos : Pos} {td ty tv : TE}
theorem pe_zget (P : Program) (w : World) (hu : X.A.units + 1 < cLine) (ho : PE X o td) (hi : PE X i ty) (hs : NoSl i) (hP : X.prog = P := by rfl) (hw : X.w = w := by rfl) : PE X (.Subscript o i pos) (tZGet P w td ty) := by
  subst hP hw
  refine ⟨fun pins s σ H Q I h => ?_⟩
  refine subD_of PySem.F.slot_dict_getitem.lookup hs (thn (ho.run pins s σ H _ I h) fun u s1 ⟨x, H1, I1, rx, q1⟩ => thn (hi.run pins s1 σ H1 _ I1 q1) fun iv s2 ⟨y, H2, I2, ry, d, b, kvs, k, v, ex, ey, g, eb, l, q2⟩ => ?_)
  subst ex ey
  obtain rfl : u = Value.ref d := rx
  obtain rfl : iv = Value.ref b := ry
  exact ⟨dz_typeIs I2 g, dz_get hu I2 g eb l fun w' s3 I3 rw' => ⟨v, H2, I3, rw', q2⟩⟩
theorem pc_znotin (P : Program) (w : World) (hu : X.A.units + 1 < cLine) (hi : PE X i ty) (ho : PE X o td) (hP : X.prog = P := by rfl) (hw : X.w = w := by rfl) : PC X .NotIn i o (tZNotIn P w ty td) := by
  subst hP hw
  refine ⟨fun pins s σ H Q I h => ?_⟩
  refine thn (hi.run pins s σ H _ I h) fun iv s1 ⟨y, H1, I1, ry, q1⟩ => thn (ho.run pins s1 σ H1 _ I1 q1) fun u s2 ⟨x, H2, I2, rx, d, b, kvs, k, ex, ey, g, eb, q2⟩ => ?_
  subst ex ey
  obtain rfl : u = Value.ref d := rx
  obtain rfl : iv = Value.ref b := ry
  exact dz_notIn hu I2 g eb fun s3 I3 => ⟨.bl (!(valV kvs k).isSome), H2, I3, rfl, q2⟩
theorem ps_zput (P : Program) (w : World) (hu : X.A.units + 1 < cLine) (ho : PE X o td) (hi : PE X i ty) (hv : PE X value tv) (hs : swapsWith value (some (.Subscript o i pos')) pos.line X.env = pure false) (hP : X.prog = P := by rfl) (hw : X.w = w := by rfl) :
    PS X (.Assign [.Subscript o i pos'] value pos) (sZPut P w td ty tv) := by
  subst hP hw
  refine ⟨fun pins s σ H D I h => ?_⟩
  refine wpAny_Assign_Subscript (thn (hv.run pins s σ H _ I h) fun r s1 ⟨v, H1, I1, rv, q1⟩ => thn (ho.run pins s1 σ H1 _ I1 q1) fun u s2 ⟨x, H2, I2, rx, q2⟩ => thn (hi.run pins s2 σ H2 _ I2 q2) fun iv s3 ⟨y, H3, I3, ry, d, b, kvs, k, ex, ey, g, eb, hl, q3⟩ => ?_) hs
  subst ex ey
  obtain rfl : u = Value.ref d := rx
  obtain rfl : iv = Value.ref b := ry
  exact dz_set hu I3 g eb hl rv fun od s4 I4 g4 => ⟨σ, _, I4, q3 od g4⟩
theorem pe_zdisp (P : Program) (w : World) {k v : Expr} {tk tv : TE} (hk : PE X k tk) (hv : PE X v tv) (hu : X.A.units + 1 < cLine) (hP : X.prog = P := by rfl) (hw : X.w = w := by rfl) : PE X (.Dict [some k] [v] pos) (tZDisp P w tk tv) := by
  subst hP hw
  refine ⟨fun pins s σ H Q I q => ?_⟩
  have hn := I.hok.fresh (Nat.le_refl s.heap.objs.size)
  have hb : (s.heap.objs.size == sysModules) = false := beq_eq_false_iff_ne.mpr (Ne.symm (Nat.ne_of_lt I.big))
  have I1 : Inv X pins σ (upd H s.heap.objs.size (zO s.heap.objs.size { cls := .type "dict", data := .dict #[] })) { s with heap := s.heap.push { cls := .type "dict", data := .dict #[] }, toks := s.toks } :=
    I.laid (t' := s.toks) (fun _ _ q => Heap.get?_push_of_some _ q) (Nat.le_refl _) (zO_ok (Heap.get?_push_size _ rfl))
  rw [arm_eval_Dict, zip_pairTrees [some k] [v] X.env pos rfl rfl, dictDisplay_pairs (pairTrees [some k] [v] X.env pos) (by intro e; cases e) (by show 1 < 17; decide)]
  refine wpAny_bind (wpAny_standAt (wpAny_bind (wpAny_subDictH (knd := tupleKind (mixKind X.prog X.w)) (show X.A.units < cLine from Nat.lt_of_succ_lt hu) (by show 1 ≤ 15; decide) (pairTrees_cons_walk ?_))))
  refine thn (hk.run pins _ σ _ _ I1 (q _ hn)) fun u s1 ⟨x, H1, I2, rx, q1⟩ => thn (hv.run pins s1 σ H1 _ I2 q1) fun u2 s2 ⟨y, H2, I3, ry, e, b, kk, ex, eb, q2⟩ => pairTrees_nil_walk ?_
  subst ex
  obtain rfl : u = Value.ref b := rx
  have g : DZ X.prog X.w H2 s.heap.objs.size [] := ⟨_, Nat.zero_le _, hb, e, [], #[], 0, .nil, ⟨rfl, rfl, rfl⟩, rfl, rfl, List.nodup_nil⟩
  obtain ⟨z, hd, xs, rel, dd⟩ := dz_of I3.hok g
  cases rel
  refine ⟨[(kk, b, u2)], ⟨rfl, rfl, keyZ I3.hok eb, trivial⟩, dd, fun h' tk2 dd' hs => wpAny_pure ?_⟩
  have e1 : storedAllH [] [(kk, b, u2)] = storedH [] kk b u2 := rfl
  rw [e1] at dd'
  obtain ⟨od, I4, g4⟩ := dz_written (t' := tk2) I3 g eb ry (by show 1 ≤ sizeLine; decide) .nil hs dd'
  exact ⟨.ref s.heap.objs.size, _, I4, rfl, q2 od g4⟩
end
section
variable {X : Cx}
/-- {k: v for target in iter if ..}, keys tuples -/
def tDcZ (P : Program) (w : World) (wi : TI) (g : TG) (tt : TT) (tk tv : TE) (vs : List Nat) : TE := fun σ H Q => wi σ H fun J H1 => ∀ D, H1 D = none → (D == sysModules) = false → ∃ W : Nat → Nat → Hp → Prop, (∃ m, W 0 m (upd H1 D (zO D { cls := .type "dict", data := .dict #[] }))) ∧ ∀ i m H, W i m H →
  (J.stop i H ∧ Q (.ref D) H) ∨ (J.go i H ∧ ∃ Nx : Hp → Prop, (∀ H', Nx H' → ∃ m', m' < m ∧ W (i + 1) m' H') ∧ ∀ x H', J.yld i H x H' → g x (wipe σ vs) H' fun σ2 H2 => wipe σ2 vs = wipe σ vs ∧ tt σ2 H2 fun b H3 =>
    if b = true then tk σ2 H3 fun y H4 => tv σ2 H4 fun z H5 => ∃ (kvs : List (List Key × V)) (k : List Key) (bk : Addr), y = .ref bk ∧ Rd H5 bk (.tup (k.map kV)) ∧ DZ P w H5 D kvs ∧ kvs.length < sizeLine ∧ ∀ od, DZ P w (upd H5 D (zO D od)) D (putK kvs k z) → Nx (upd H5 D (zO D od)) else Nx H3)
theorem dcZ_core {P : Program} {w : World} {pins : List (Addr × Obj)} {s : Shared} {σ : St} {H : Hp} {Q : VK} {kx vx tg iter : Expr} {ifs : List Expr} {scope : Scope} {own : List (Str × Nat)} {pos pos' : Pos} {wi : TI} {g : TG} {tt : TT} {tk tv : TE} {use : Option (Value → Sem Unit)} {Qf : Value → Shared → Prop}
    (hu : X.A.units + 1 < cLine) (hc : X.calm = true) (hN : X.N.Nodup) (I : Inv X pins σ H s) (hi : PI X tg iter wi) (ok : BlkOk X.N X.env.scope scope own)
    (hg : ∀ (s : Shared) (H : Hp) (C : Addr) (cl : List (Str × Addr)) (fp : List Addr), PG (X.blk s H scope (compEnvC scope cl C X.env) fp) tg g) (ht : ∀ (s : Shared) (H : Hp) (C : Addr) (cl : List (Str × Addr)) (fp : List Addr), PTs (X.blk s H scope (compEnvC scope cl C X.env) fp) ifs tt)
    (hk : ∀ (s : Shared) (H : Hp) (C : Addr) (cl : List (Str × Addr)) (fp : List Addr), PE (X.blk s H scope (compEnvC scope cl C X.env) fp) kx tk)
    (he : ∀ (s : Shared) (H : Hp) (C : Addr) (cl : List (Str × Addr)) (fp : List Addr), PE (X.blk s H scope (compEnvC scope cl C X.env) fp) vx tv) (hs : ∀ x, foldedSetIterable iter X.env x = pure x)
    (hP : X.prog = P) (hw : X.w = w) (h : tDcZ P w wi g tt tk tv (own.map (·.2)) σ H Q)
    (hRR : ∀ D C s' m H', Inv X pins σ H' s' → Q (.ref D) H' → s'.heap.Ns C m → FpOk X pins H' C → compPost (model X.prog X.w) X.A X.xe use Qf (.ref D) C (.ok .next) s') :
    wpAny (model X.prog X.w) X.A (comprehension (.DictComp kx vx [⟨tg, iter, ifs, 0⟩] scope pos) scope X.env pos' newDict false (eval iter X.env) use) Qf X.xe s := by
  subst hP hw
  have hfree : ∀ y ∈ scope.names, y.2 = .free → ∃ c, X.env.cells.lookup y.1 = some c := fun y hy e => by
    rcases ok.free y hy e with k | k
    · exact I.ok.has _ (.inl k)
    · exact I.ok.has _ (.inr k)
  refine wpAny_comprehension_free (use := use) rfl hs (closure_ok hfree) ok.kind (fun y hy e => by rw [ok.uniq y hy, e])
    (thn (hi.run pins s σ H _ I h) fun xv s1 hx => thn hx fun itv s2 h2 => ?_)
  obtain ⟨it, fp, tn, J, H2, e, I2, T, st2, f2, q⟩ := h2
  subst e
  refine wpAny_newObj_type (newEnv_comp ?_)
  generalize hD : s2.heap.objs.size = D
  have hDn : H2 D = none := I2.hok.fresh (Nat.le_of_eq hD)
  obtain ⟨W, ⟨m0, w0⟩, turn⟩ := q D hDn (by rw [← hD]; exact beq_eq_false_iff_ne.mpr (Ne.symm (Nat.ne_of_lt I2.big)))
  -- the new list
  generalize hs3 : ({ s2 with heap := s2.heap.push { cls := .type "dict", data := .dict #[] } } : Shared) = s3
  have I3 : Inv X pins σ (upd H2 D (zO D { cls := .type "dict", data := .dict #[] })) s3 := by
    rw [← hs3]
    refine I2.laid (t' := s2.toks) (fun b o e => Heap.get?_push_of_some _ e) (Nat.le_of_eq hD) ?_
    rw [← hD]
    exact zO_ok (Heap.get?_push_size _ rfl)
  have h3 : s3.heap = s2.heap.push { cls := .type "dict", data := .dict #[] } := by rw [← hs3]
  have sz : ∀ b ∈ fp, b < s2.heap.objs.size := fun b hb => by
    obtain ⟨o, e, _⟩ := T.obj _ _ st2 b hb
    exact Heap.lt_size e
  have f3 : ∀ b ∈ fp, FpOk X pins (upd H2 D (zO D { cls := .type "dict", data := .dict #[] })) b ∧ b < s3.heap.objs.size := fun b hb => by
    have hlt := sz b hb
    refine ⟨⟨?_, (f2 b hb).2⟩, by rw [h3, Heap.size_push]; exact Nat.lt_succ_of_lt hlt⟩
    rw [upd_ne (by rw [← hD]; exact Nat.ne_of_lt hlt)]
    exact (f2 b hb).1
  have st3 : tn 0 s3.heap := T.keep _ _ _ st2 fun b _ o e => by rw [h3]; exact Heap.get?_push_of_some _ e
  have I4 := block_start I3 ok hN f3
  have pg := hg s3 (upd H2 D (zO D { cls := .type "dict", data := .dict #[] })) s3.heap.objs.size (cellsFrom (s3.heap.objs.size + 1) scope.names (cloFrom X.env.cells scope.names [])) fp
  have pt := ht s3 (upd H2 D (zO D { cls := .type "dict", data := .dict #[] })) s3.heap.objs.size (cellsFrom (s3.heap.objs.size + 1) scope.names (cloFrom X.env.cells scope.names [])) fp
  have pk := hk s3 (upd H2 D (zO D { cls := .type "dict", data := .dict #[] })) s3.heap.objs.size (cellsFrom (s3.heap.objs.size + 1) scope.names (cloFrom X.env.cells scope.names [])) fp
  have pe := he s3 (upd H2 D (zO D { cls := .type "dict", data := .dict #[] })) s3.heap.objs.size (cellsFrom (s3.heap.objs.size + 1) scope.names (cloFrom X.env.cells scope.names [])) fp
  show codeAny _ _ (.compStart (.DictComp kx vx [⟨tg, iter, ifs, 0⟩] scope pos) 0 (.ref it) (.ref D) (compEnvC scope (cellsFrom (s3.heap.objs.size + 1) scope.names (cloFrom X.env.cells scope.names [])) s3.heap.objs.size X.env)) (compPost (model X.prog X.w) X.A X.xe use Qf (.ref D) s3.heap.objs.size) { s3 with heap := pushCells (s3.heap.push { cls := .type "dict", data := .dict #[] }) scope.names }
  have nfp : ∀ b ∈ fp, (upd H2 D (zO D { cls := .type "dict", data := .dict #[] })) b = none := fun b hb => (f3 b hb).1.1
  generalize hce : compEnvC scope (cellsFrom (s3.heap.objs.size + 1) scope.names (cloFrom X.env.cells scope.names [])) s3.heap.objs.size X.env = ce at I4 pg pt pk pe ⊢
  have cL : ce.locals = s3.heap.objs.size := by subst hce; rfl
  generalize hH3 : upd H2 D (zO D { cls := .type "dict", data := .dict #[] }) = H3 at I3 I4 pg pt pk pe w0 nfp f3
  generalize hs4 : ({ s3 with heap := pushCells (s3.heap.push { cls := .type "dict", data := .dict #[] }) scope.names } : Shared) = s4 at I4 ⊢
  have st4 : tn 0 s4.heap := T.keep _ _ _ st3 fun b _ o e => by rw [← hs4]; exact pushCells_keeps _ _ _ _ (Heap.get?_push_of_some _ e)
  have stat : ∀ {σ' : St} {H' : Hp} {s' : Shared}, Inv (X.blk s3 H3 scope ce fp) [] σ' H' s' → (∀ b ∈ fp, H' b = none) → ∀ b ∈ fp, FpOk (X.blk s3 H3 scope ce fp) [] H' b := fun {σ' H' s'} I' hn b hb =>
    ⟨hn b hb, (I'.ok.exf b hb).1, I'.ok.exfs b hb, .inl hb, fun x c e => (I'.ok.exf b hb).2 x c e, fun p hp => absurd (show p ∈ ([] : List (Addr × Obj)) ++ [] from hp) (by simp)⟩
  have loop : codeAny (model X.prog X.w) X.A (.compLoop (.DictComp kx vx [⟨tg, iter, ifs, 0⟩] scope pos) 0 (.ref it) (.ref D) ce) (compPost (model X.prog X.w) X.A X.xe use Qf (.ref D) s3.heap.objs.size) s4 := by
    refine compLoop_anyD (fun n s' => ∃ i H', Inv (X.blk s3 H3 scope ce fp) [] (wipe σ (own.map (·.2))) H' s' ∧ tn i s'.heap ∧ (∀ b ∈ fp, H' b = none) ∧ W i n H') ?_ m0 ⟨0, H3, I4, st4, nfp, w0⟩
    rintro n s5 ⟨i, H5, I5, st5, n5, w5⟩
    rcases turn i n H5 w5 with ⟨stop, qq⟩ | ⟨go, Nx, hNx, step⟩
    · have td := T.done (X.blk s3 H3 scope ce fp) rfl rfl rfl hc i [] s5 _ H5 (fun _ _ => False) I5 (stat I5 n5) st5 stop
      refine thnF td fun r s6 ⟨hr, I6⟩ => ?_
      subst hr
      -- back in the def's context
      have I7 : Inv X pins σ H5 s6 := I3.call' (ch := fp) I6.os I6.base I6.hok I6.bare fun b hb => ⟨(f3 b hb).1.2.2.2.1, (f3 b hb).1.2.1, (f3 b hb).1.2.2.2.2.1, (f3 b hb).1.2.2.2.2.2⟩
      have nC : H5 s3.heap.objs.size = none := by
        have z : H5 ce.locals = none := I6.free
        rw [cL] at z
        exact z
      obtain ⟨m, hn, _⟩ := I6.loc
      have hn : s6.heap.Ns ce.locals m := hn
      rw [cL] at hn
      exact hRR D s3.heap.objs.size s6 m H5 I7 qq hn (I3.fpOk (Nat.le_refl _) nC)
    · have ti := T.item (X.blk s3 H3 scope ce fp) rfl rfl rfl hc i [] s5 _ H5 (fun _ _ => False) I5 (stat I5 n5) st5 go
      refine thnF ti fun r s6 ⟨u, hr, h6⟩ => ?_
      subst hr
      refine thnF h6 fun _ s7 ⟨x, H7, I7, r7, y7, st7, n7⟩ => ?_
      have I7' := I7.pinned (stat I7 n7) (T.obj _ _ st7)
      refine thnF (pg.run _ s7 _ H7 x u _ I7' r7 (step x H7 y7)) fun _ s8 ⟨σ8, H8, I8, hw8, q8⟩ => ?_
      refine thnF (pt.run _ s8 σ8 H8 _ I8 q8) fun b s9 ⟨H9, I9, q9⟩ => ?_
      -- the turn's end
      have fin : ∀ {s' : Shared} {H' : Hp}, Inv (X.blk s3 H3 scope ce fp) ([] ++ pinsAt fp s7.heap) σ8 H' s' → Nx H' → ∃ m, m < n ∧ ∃ i H', Inv (X.blk s3 H3 scope ce fp) [] (wipe σ (own.map (·.2))) H' s' ∧ tn i s'.heap ∧ (∀ b ∈ fp, H' b = none) ∧ W i m H' := fun {s' H'} I' nx => by
        obtain ⟨m', hm, w'⟩ := hNx H' nx
        have pin' : ∀ b ∈ fp, ∀ o, s7.heap.get? b = some o → s'.heap.get? b = some o ∧ H' b = none := fun b hb o e =>
          let z := I'.pin (b, o) (List.mem_append_right _ (List.mem_append_right _ (mem_pinsAt hb e)))
          ⟨z.1, z.2.1⟩
        have hl : (wipe σ (own.map (·.2))).length = σ8.length := by rw [← hw8, wipe_length]
        refine ⟨m', hm, i + 1, H', (I'.unpinned (pins := [])).weak hl (fun j v e => ?_), T.keep _ _ _ st7 fun b hb o e => (pin' b hb o e).1, fun b hb => ?_, w'⟩
        · rw [← hw8] at e
          exact (wipe_some e).1
        · obtain ⟨o, e, _⟩ := T.obj _ _ st7 b hb
          exact (pin' b hb o e).2
      cases b with
      | false =>
        simp only [Bool.false_eq_true, if_false] at q9 ⊢
        exact fin I9 q9
      | true =>
        simp only [if_true] at q9 ⊢
        refine thnF (pk.run _ s9 σ8 H9 _ I9 q9) fun z s10 ⟨yk, H10, I10, r10, q10⟩ => ?_
        refine thnF (pe.run _ s10 σ8 H10 _ I10 q10) fun z2 s11 ⟨yv, H11, I11, r11, kvs, k, bk, ek, eb, hD11, hz11, nx⟩ => ?_
        subst ek
        exact dz_dictSet (X := X.blk s3 H3 scope ce fp) hu I11 hD11 hz11 eb r10 r11 fun od s12 I12 g12 => fin I12 (nx od g12)
  exact codeAny_compStart_dict loop (T.self X.A 0 _ _ _ st4 loop)
/-- as a value -/
theorem pe_dcZ (P : Program) (w : World) {kx vx tg iter : Expr} {ifs : List Expr} {scope : Scope} {own : List (Str × Nat)} {pos : Pos} {wi : TI} {g : TG} {tt : TT} {tk tv : TE} (hu : X.A.units + 1 < cLine) (hc : X.calm = true) (hN : X.N.Nodup) (hi : PI X tg iter wi) (ok : BlkOk X.N X.env.scope scope own)
    (hg : ∀ (s : Shared) (H : Hp) (C : Addr) (cl : List (Str × Addr)) (fp : List Addr), PG (X.blk s H scope (compEnvC scope cl C X.env) fp) tg g) (ht : ∀ (s : Shared) (H : Hp) (C : Addr) (cl : List (Str × Addr)) (fp : List Addr), PTs (X.blk s H scope (compEnvC scope cl C X.env) fp) ifs tt)
    (hk : ∀ (s : Shared) (H : Hp) (C : Addr) (cl : List (Str × Addr)) (fp : List Addr), PE (X.blk s H scope (compEnvC scope cl C X.env) fp) kx tk)
    (he : ∀ (s : Shared) (H : Hp) (C : Addr) (cl : List (Str × Addr)) (fp : List Addr), PE (X.blk s H scope (compEnvC scope cl C X.env) fp) vx tv) (hs : ∀ x, foldedSetIterable iter X.env x = pure x := by intro _; rfl) (hP : X.prog = P := by rfl) (hw : X.w = w := by rfl) :
    PE X (.DictComp kx vx [⟨tg, iter, ifs, 0⟩] scope pos) (tDcZ P w wi g tt tk tv (own.map (·.2))) := by
  refine ⟨fun pins s σ H Q I h => ?_⟩
  rw [arm_eval_DictComp]
  refine dcZ_core hu hc hN I hi ok hg ht hk he hs hP hw h fun D C s' m H' I' q hn f => ⟨m, hn, fun h'' sb => ?_⟩
  obtain ⟨f0, f1, f2, f3, f4, f5⟩ := f
  exact ⟨.ref D, H', I'.turned (t' := s'.toks) (fun b o hb e => (sb.2 b hb).trans e) f0 f1 f3 f4 f5, rfl, q⟩

end
section
variable {X : Cx} {pins : List (Addr × Obj)} {σ : St} {H : Hp} {s : Shared} {d : Addr} {o : Obj}
theorem Inv.frzZ {kvs : List (List Key × V)} (I : Inv X pins σ H s) (h : DZo X.prog X.w H d o kvs) :
    (d == sysModules) = false ∧ s.heap.get? d = some o ∧ o.ExactDict ∧ ∃ (es : Array DictEntry) (ep : Nat), o.data = .dict es ep ∧ es.size = kvs.length ∧
      ∀ (i : Nat) (k : List Key) (v : V), kvs[i]? = some (k, v) → ∃ (en : DictEntry) (q : Addr), es[i]? = some en ∧ en.key = .ref q ∧ Rd H q (.tup (k.map kV)) ∧ RelV v en.val := by
  obtain ⟨z, hs, hd0, xs, es, ep, pr, hx, hdt, he, _⟩ := h
  have hd := (show ObjOk X.prog X.w H s.heap d (zO d o) from I.hok d _ hd0).1
  refine ⟨hs, hd, hx, es, ep, hdt, ?_, fun i k v e => ?_⟩
  · have l1 : es.size = xs.length := size_of_entries he
    have l2 : kvs.length = xs.length := Paired.length pr
    omega
  · obtain ⟨b, hb, e1, e2, e3⟩ := paired_get pr e
    have q := entry_at he i
    rw [hb] at q
    exact ⟨_, b.2.1, q, rfl, rd_melt e2, e3⟩
end
/-- the pairs of a locked dict with tuple keys, each a new tuple -/
def Itiz (P : Program) (w : World) (d : Addr) (o : Obj) (kvs : List (List Key × V)) : It :=
  ⟨fun i H => DZo P w H d o kvs ∧ i < kvs.length, fun i H x H' => ∃ (T : Addr) (k : List Key) (v : V) (q : Addr), kvs[i]? = some (k, v) ∧ x = .ref T ∧ H T = none ∧ Rd H q (.tup (k.map kV)) ∧ H' = upd H T (.tup [.ref q, v]), fun i H => DZo P w H d o kvs ∧ kvs.length ≤ i⟩
section
variable {P : Program} {w : World} {K : PySem.W.Frag} {tg : Expr} {d : Addr} {o : Obj} {es : Array DictEntry} {ep : Nat}
theorem turn_itemsZ {kvs : List (List Key × V)} {elts : List Expr} {kk : Nat} {tpos : Pos} (it : Addr) (hod : o.data = .dict es ep) :
    Turn P w K (.Tuple elts kk tpos) (Itiz P w d o kvs) [it] it (fun i h => ∃ ok ov, IsItemIter h it d i kvs.length ep ok ov) where
  mem := by simp
  obj := fun i h st b hb => by
    have e : b = it := by simpa using hb
    subst e
    obtain ⟨ok, ov, e⟩ := st
    exact ⟨_, e, fun v z => nomatch z⟩
  keep := fun i h h' st k => let ⟨ok, ov, e⟩ := st; ⟨ok, ov, k it (by simp) _ e⟩
  item := by
    intro X hP hw hK hc i pins s σ H E I hf st hg
    subst hP hw hK
    obtain ⟨hd, hi⟩ := hg
    obtain ⟨hs, hgd, hx, es', ep', hdt, hsz, ent⟩ := I.frzZ hd
    obtain ⟨rfl, rfl⟩ := dict_ep hod hdt
    obtain ⟨⟨k, v⟩, hkv⟩ : ∃ p, kvs[i]? = some p := ⟨kvs[i], List.getElem?_eq_getElem hi⟩
    obtain ⟨en, q, hen, hkey, hq, rv⟩ := ent i k v hkv
    obtain ⟨ok, ov, he⟩ := st
    rw [← hsz] at he
    have hlt : it < s.heap.objs.size := Heap.lt_size he
    have hi2 : i < es'.size := by omega
    have hen2 : es'[i] = en := by
      rw [Array.getElem?_eq_getElem hi2] at hen
      exact Option.some.inj hen
    refine wpAny_pyNext_items_item_raw he ⟨o, hgd, hx, hdt⟩ hi2 fun h' ho hT hz hk => ?_
    rw [hen2] at ho hT
    refine ⟨_, rfl, wpAny_letOwnedTupleGo_items (s := { s with heap := h' }) ho fun h'' he' sb => ?_⟩
    have hT2 : h''.get? s.heap.objs.size = some { cls := .type "tuple", data := .seq #[en.key, en.val] } := (sb.2 _ (Nat.ne_of_gt hlt)).trans hT
    have new : ObjOk X.prog X.w (upd H s.heap.objs.size (.tup [.ref q, v])) h'' s.heap.objs.size (.tup [.ref q, v]) :=
      ⟨by show 2 ≤ sizeLine; decide, [en.key, en.val], .cons hkey (.cons rv .nil), ⟨_, hT2, rfl, _, rfl⟩⟩
    have I1 : Inv X pins σ (upd H s.heap.objs.size (.tup [.ref q, v])) { s with heap := h'' } :=
      I.turnedNew (t' := s.toks) (ch := [it]) (fun b ob hb e => (sb.2 b (by simpa using hb)).trans (hk b ob (by simpa using hb) e)) hf (Nat.le_refl _) new
    refine ⟨.ref s.heap.objs.size, _, I1, rfl, ⟨_, k, v, q, hkv, rfl, I.hok.fresh (Nat.le_refl _), hq, rfl⟩, ⟨en.key, en.val, ?_⟩, fun b hb => ?_⟩
    · rw [← hsz]; exact he'
    · have e : b = it := by simpa using hb
      rw [e, upd_ne (Nat.ne_of_lt hlt)]
      exact (hf it (by simp)).1
  done := by
    intro X hP hw hK hc i pins s σ H E I hf st hg
    subst hP hw hK
    obtain ⟨hd, hi⟩ := hg
    obtain ⟨f0, f1, f2, f3, f4, f5⟩ := hf it (by simp)
    obtain ⟨hs, hgd, hx, es', ep', hdt, hsz, ent⟩ := I.frzZ hd
    obtain ⟨rfl, rfl⟩ := dict_ep hod hdt
    obtain ⟨ok, ov, he⟩ := st
    rw [← hsz] at he
    exact wpAny_pyNext_items_end_raw (I.ok.hd hc) he ⟨o, hgd, hx, hdt⟩ (by omega) fun h' eb => ⟨rfl, I.turned (t' := s.toks) (fun b ob hb e => eb b ob hb e) f0 f1 f3 f4 f5⟩
  self := fun A i s Q E st h => let ⟨_, _, e⟩ := st; PySem.W.kcp_self e h
end
def iItemsZ (P : Program) (w : World) (td : TE) : TI := fun σ H R => td σ H fun x H1 => ∃ d o kvs, x = .ref d ∧ DZo P w H1 d o kvs ∧ R (Itiz P w d o kvs) H1
theorem pi_itemsZ (P : Program) (w : World) {X : Cx} {e : Expr} {td : TE} {apos cpos : Pos} {elts : List Expr} {kk : Nat} {tpos : Pos} (he : PE X e td) (hbase : attributeBase e "items" X.env (eval e X.env) = eval e X.env := by rfl) (hline : (apos.endLine == cpos.line) = true := by rfl) (hP : X.prog = P := by rfl) (hw : X.w = w := by rfl) :
    PI X (.Tuple elts kk tpos) (.Call (.Attribute e "items" apos) [] [] cpos) (iItemsZ P w td) := by
  subst hP hw
  refine ⟨fun pins s σ H R I h => ?_⟩
  refine wpAny_Call_method (T := "dict") (id := "dict.items") hbase rfl hline F.plainAttrs_dict F.slot_dict_items F.type_dict_items (thn (he.run pins s σ H _ I h) fun u s1 ⟨x, H1, I1, rx, d, o, kvs, ex, hd, q⟩ => ?_)
  subst ex
  obtain rfl : u = Value.ref d := rx
  obtain ⟨hs, hgd, hx, es, ep, hdt, hsz, ent⟩ := I1.frzZ hd
  have hraw : s1.heap.DictRaw d es ep := ⟨o, hgd, hx, hdt⟩
  refine ⟨hraw.typeIs, (fun a e => by cases e; exact ⟨o, hgd, hx.2.1⟩), ?_⟩
  have I2 : Inv X pins σ H1 { s1 with heap := s1.heap.push { cls := .type "dict_items", data := .fields #[.ref d] } } := I1.kept (t' := s1.toks) fun b ob q => Heap.get?_push_of_some _ q
  have fin : wpAny (model X.prog X.w) X.A (pyIter (.ref s1.heap.objs.size)) (PIE X pins σ (.Tuple elts kk tpos) R) X.xe { s1 with heap := s1.heap.push { cls := .type "dict_items", data := .fields #[.ref d] } } := by
    refine wpAny_pyIter_items_raw (d := d) (es := es) (ep := ep) ⟨_, Heap.get?_push_size _ rfl, rfl, rfl⟩ (hraw.at fun o e => Heap.get?_push_of_some _ e) (pi_one (tk := s1.toks) I2 _ (turn_itemsZ _ hdt) ⟨.none, .none, ?_⟩ q)
    rw [hsz]
    exact Heap.get?_push_size _ rfl
  show wpAny _ _ (callWith cpos (.builtin "dict.items") [.ref d] [] []) _ X.xe s1
  exact method_meetsIn F.slot_dict_items F.entry_dict_items rfl (PySem.evalArgs_none ⟨rfl, hraw.typeIs, F.args_dict_items_1 _, _, meets_dict_items_raw d hs, ⟨es, ep, hraw⟩, fin⟩)
/-- the keys -/
def Itkz (P : Program) (w : World) (d : Addr) (o : Obj) (kvs : List (List Key × V)) : It :=
  ⟨fun i H => DZo P w H d o kvs ∧ i < kvs.length, fun i H x H' => H' = H ∧ ∃ (k : List Key) (v : V) (q : Addr), kvs[i]? = some (k, v) ∧ x = .ref q ∧ Rd H q (.tup (k.map kV)), fun i H => DZo P w H d o kvs ∧ kvs.length ≤ i⟩
theorem turn_keysZ {P : Program} {w : World} {K : PySem.W.Frag} {tg : Expr} {d : Addr} {o : Obj} {es : Array DictEntry} {ep : Nat} {kvs : List (List Key × V)} (it : Addr) (hod : o.data = .dict es ep) : Turn P w K tg (Itkz P w d o kvs) [it] it (fun i h => h.IsKeyIter it d i kvs.length ep) where
  mem := (turn_keysT (P := P) (w := w) (K := K) (tg := tg) (d := d) (kvs := kvs) it hod).mem
  obj := (turn_keysT (P := P) (w := w) (K := K) (tg := tg) (d := d) (kvs := kvs) it hod).obj
  keep := (turn_keysT (P := P) (w := w) (K := K) (tg := tg) (d := d) (kvs := kvs) it hod).keep
  item := by
    intro X hP hw hK hc i pins s σ H E I hf st hg
    subst hP hw hK
    obtain ⟨hd, hi⟩ := hg
    obtain ⟨f0, f1, f2, f3, f4, f5⟩ := hf it (by simp)
    obtain ⟨hs, hgd, hx, es', ep', hdt, hsz, ent⟩ := I.frzZ hd
    obtain ⟨rfl, rfl⟩ := dict_ep hod hdt
    obtain ⟨⟨k, v⟩, hkv⟩ : ∃ p, kvs[i]? = some p := ⟨kvs[i], List.getElem?_eq_getElem hi⟩
    obtain ⟨en, q, hen, hkey, hq, _⟩ := ent i k v hkv
    refine next_key_item st hgd hdt hsz hen fun h' st' sb => ?_
    have I1 : Inv X pins σ H { s with heap := h' } := I.turned (t' := s.toks) (fun b ob hb e => (sb.2 b hb).trans e) f0 f1 f3 f4 f5
    obtain ⟨oi, e, c, dd⟩ := id st'
    exact ⟨en.key, rfl, go_of (s := { s with heap := h' }) e c dd (by decide) ⟨.ref q, H, I1, hkey, ⟨rfl, k, v, q, hkv, rfl, hq⟩, st', fun b hb => (hf b hb).1⟩⟩
  done := by
    intro X hP hw hK hc i pins s σ H E I hf st hg
    subst hP hw hK
    obtain ⟨hd, hi⟩ := hg
    obtain ⟨f0, f1, f2, f3, f4, f5⟩ := hf it (by simp)
    obtain ⟨hs, hgd, hx, es', ep', hdt, hsz, ent⟩ := I.frzZ hd
    obtain ⟨rfl, rfl⟩ := dict_ep hod hdt
    exact next_key_end (I.ok.hd hc) st hgd hdt hsz hi fun h' eb => ⟨rfl, I.turned (t' := s.toks) (fun b ob hb e => eb b ob hb e) f0 f1 f3 f4 f5⟩
  self := (turn_keysT (P := P) (w := w) (K := K) (tg := tg) (d := d) (kvs := kvs) it hod).self
def iKeysZ (P : Program) (w : World) (td : TE) : TI := fun σ H R => td σ H fun x H1 => ∃ d o kvs, x = .ref d ∧ DZo P w H1 d o kvs ∧ R (Itkz P w d o kvs) H1
theorem pi_keysZ (P : Program) (w : World) {X : Cx} {tg e : Expr} {td : TE} (he : PE X e td) (hP : X.prog = P := by rfl) (hw : X.w = w := by rfl) : PI X tg e (iKeysZ P w td) := by
  subst hP hw
  refine ⟨fun pins s σ H R I h => ?_⟩
  refine thn (he.run pins s σ H _ I h) fun u s1 ⟨x, H1, I1, rx, d, o, kvs, ex, hd, q⟩ => ?_
  subst ex
  obtain rfl : u = Value.ref d := rx
  obtain ⟨hs, hgd, hx, es, ep, hdt, hsz, ent⟩ := I1.frzZ hd
  refine iter_keys hs hgd hx hdt (pi_one (tk := s1.toks) I1 _ (turn_keysZ _ hdt) ⟨_, Heap.get?_push_size _ rfl, rfl, ?_⟩ q)
  rw [hsz] <;> rfl
end L2
/-! R10 -/
set_option maxHeartbeats 2000000
namespace Kn
open PySem PySem.Spec PyProof.Rows PySem.W L2
def TupZ (H : Hp) (v : V) (r : List Nat) : Prop := ∃ a, v = .ref a ∧ Rd H a (.tup (tI r))
def TupF (H : Hp) (v : V) (r : List Nat) : Prop := ∃ a o, v = .ref a ∧ H a = some (.frz o (.tup (tI r))) ∧ o.dict = none
def TZ (H : Hp) (vs : List V) (rows : List (List Nat)) : Prop := vs.length = rows.length ∧ ∀ (i : Nat) (v : V), vs[i]? = some v → ∃ r, rows[i]? = some r ∧ TupZ H v r
def TF (H : Hp) (vs : List V) (rows : List (List Nat)) : Prop := vs.length = rows.length ∧ ∀ (i : Nat) (v : V), vs[i]? = some v → ∃ r, rows[i]? = some r ∧ TupF H v r
theorem _root_.L2.Rd.same {H H' : Hp} {a : Addr} {u : HO} (s : Same H H') (h : Rd H a u) : Rd H' a u := by
  rcases h with h | ⟨o, h⟩
  · exact .inl (s _ _ h)
  · exact .inr ⟨o, s _ _ h⟩
theorem TupZ.same {H H' : Hp} {v : V} {r : List Nat} (s : Same H H') (h : TupZ H v r) : TupZ H' v r := let ⟨a, e, h⟩ := h; ⟨a, e, h.same s⟩
theorem TupF.same {H H' : Hp} {v : V} {r : List Nat} (s : Same H H') (h : TupF H v r) : TupF H' v r := let ⟨a, o, e, h, d⟩ := h; ⟨a, o, e, s _ _ h, d⟩
theorem TupF.z {H : Hp} {v : V} {r : List Nat} (h : TupF H v r) : TupZ H v r := let ⟨a, o, e, h, _⟩ := h; ⟨a, e, .inr ⟨o, h⟩⟩
theorem TupZ.of {H : Hp} {v : V} {r : List Nat} (h : Tup H v r) : TupZ H v r := let ⟨a, e, h⟩ := h; ⟨a, e, .inl h⟩
theorem TZ.same {H H' : Hp} {vs : List V} {rows : List (List Nat)} (s : Same H H') (h : TZ H vs rows) : TZ H' vs rows := ⟨h.1, fun i v e => let ⟨r, h1, h2⟩ := h.2 i v e; ⟨r, h1, h2.same s⟩⟩
theorem TF.same {H H' : Hp} {vs : List V} {rows : List (List Nat)} (s : Same H H') (h : TF H vs rows) : TF H' vs rows := ⟨h.1, fun i v e => let ⟨r, h1, h2⟩ := h.2 i v e; ⟨r, h1, h2.same s⟩⟩
theorem _root_.L2.Rd.sq {K : Fr} {H : Hp} {a : Addr} {xs : List V} (h : Rd H a (.tup xs)) : SqT K H a xs := .inl h
theorem _root_.L2.DZ.same {P : Program} {w : World} {H H' : Hp} {d : Addr} {kvs : List (List Key × V)} (s : Same H H') (h : DZ P w H d kvs) : DZ P w H' d kvs := let ⟨od, h⟩ := h; ⟨od, h.keeps (s _ _ h.2.2.1) fun _ _ z => z.same s⟩
theorem _root_.L2.DZo.same {P : Program} {w : World} {H H' : Hp} {d : Addr} {od : Obj} {kvs : List (List Key × V)} (s : Same H H') (h : DZo P w H d od kvs) : DZo P w H' d od kvs := h.keeps (s _ _ h.2.2.1) fun _ _ z => z.same s
theorem wk_itemsZ {P : Program} {w : World} {H0 : Hp} {d : Addr} {o : Obj} {kvs : List (List Key × V)} (h : DZo P w H0 d o kvs) : Wk (Itiz P w d o kvs) H0 kvs.length (fun i x H => ∃ (T : Addr) (k : List Key) (v : V) (q : Addr), kvs[i]? = some (k, v) ∧ x = .ref T ∧ H T = some (.tup [.ref q, v]) ∧ Rd H q (.tup (k.map kV))) where
  go := fun i H s hi => ⟨h.same s, hi⟩
  yld := fun i H x H' s hi hy => by
    obtain ⟨T, k, v, q, h1, h2, h3, h4, rfl⟩ := hy
    exact ⟨same_upd h3, T, k, v, q, h1, h2, upd_same, h4.same (same_upd h3)⟩
  stop := fun H s => ⟨h.same s, Nat.le_refl _⟩
theorem wk_keysZ {P : Program} {w : World} {H0 : Hp} {d : Addr} {o : Obj} {kvs : List (List Key × V)} (h : DZo P w H0 d o kvs) : Wk (Itkz P w d o kvs) H0 kvs.length (fun i x H => ∃ (k : List Key) (v : V) (q : Addr), kvs[i]? = some (k, v) ∧ x = .ref q ∧ Rd H q (.tup (k.map kV))) where
  go := fun i H s hi => ⟨h.same s, hi⟩
  yld := fun i H x H' s hi hy => by
    obtain ⟨rfl, k, v, q, h1, h2, h3⟩ := hy
    exact ⟨Same.refl _, k, v, q, h1, h2, h3⟩
  stop := fun H s => ⟨h.same s, Nat.le_refl _⟩
/-- a change at the dict itself keeps what else stands -/
theorem same_zput {H : Hp} {H0 : Hp} {d : Addr} {u : HO} (s : Same H0 H) (h : H0 d = none) : Same H0 (upd H d u) := fun b o e => by
  rw [upd_ne (fun z => by rw [z, h] at e; cases e)]
  exact s b o e
section
variable {X : Cx} {pins : List (Addr × Obj)} {σ : L2.St} {H : Hp} {s : Shared}
theorem reads_dIZ (I : Inv X pins σ H s) {a : Addr} {ns : List Nat} (h : Rd H a (.tup (tI ns))) : Reads s.heap (.ref a) (dI ns) [] := by
  obtain ⟨its, rv, ⟨o, ho, hc, n, hd⟩, _⟩ := I.tuple (Rd.sq (K := X.K) h)
  exact .tuple ho hc hd (by simpa using readsAll_vals rv)
/-- what sorted leaves: the same rows, perhaps in another order -/
def SrtZ (rows : List (List Nat)) (H : Hp) (Q : VK) : Prop := ∀ (p : Addr) (ys : List V) (rows' : List (List Nat)), H p = none → rows'.Perm rows → TZ H ys rows' → Q (.ref p) (upd H p (.lst ys))
theorem sorted_rowsZ {Q : VK} {r : Addr} {us : List Value} {vs : List V} {rows : List (List Nat)} (I : Inv X pins σ H s) (hu : X.A.units + 64 < cLine)
    (hc : ∀ (R : List Value → Shared → Prop) (E : Value → Shared → Prop), (∀ h' tk, (∀ b o, s.heap.get? b = some o → h'.get? b = some o) → R us { s with heap := h', toks := tk }) → wpAny (model X.prog X.w) X.A.in1 (collect (.ref r)) R E s)
    (rv : Vals vs us) (htl : TZ H vs rows) (hne : ∀ q ∈ rows, q ≠ []) (hz : rows.length ≤ sizeLine) (q : SrtZ rows H Q) : wpAny (model X.prog X.w) X.A (call (.builtin "sorted") [.ref r]) (EP X pins σ Q) X.xe s := by
  have hat : ∀ (i : Nat) (u : Value) (v : V) (q : List Nat), us[i]? = some u → vs[i]? = some v → rows[i]? = some q → RelV v u ∧ TupZ H v q := fun i u v q e1 e2 e3 => by
    obtain ⟨u', h1, h2⟩ := Vals.get rv e2
    rw [e1] at h1
    cases h1
    obtain ⟨q', h3, h4⟩ := htl.2 i v e2
    rw [e3] at h3
    cases h3
    exact ⟨h2, h4⟩
  have hb : ∀ b ∈ vs.zip rows, TupZ H b.1 b.2 := fun b hb => by
    obtain ⟨i, hi, e⟩ := List.getElem_of_mem hb
    have e' : (vs.zip rows)[i]? = some b := by rw [List.getElem?_eq_getElem hi, e]
    obtain ⟨e1, e2⟩ := List.getElem?_zip_eq_some.mp e'
    obtain ⟨q', h3, h4⟩ := htl.2 i b.1 e1
    rw [e2] at h3
    cases h3
    exact h4
  refine sorted_of (bs := vs.zip rows) (enc := fun b => dI b.2) (R := fun u b => RelV b.1 u) hc (each_zip rv.length.symm htl.1 fun i u v q e1 e2 e3 => (hat i u v q e1 e2 e3).1) (each_zip rv.length.symm htl.1 fun i u v q e1 e2 e3 => ?_) (AllAlike.of fun b b' => alike_dI _ _) ?_
    (by rw [List.length_zip, htl.1, Nat.min_self]; exact hz) (fun b _ => ?_) fun h1 h' tk out c k1 k2 ho eo => ?_
  · obtain ⟨h1, a, rfl, h2⟩ := hat i u v q e1 e2 e3
    cases h1
    exact reads_dIZ I h2
  · refine .inl fun d hd => ?_
    obtain ⟨b, hb', rfl⟩ := List.mem_map.mp hd
    have hm : b.2 ∈ rows := (List.of_mem_zip hb').2
    cases e : b.2 with
    | nil => exact absurd e (hne _ hm)
    | cons x xs => exact ⟨_, _, rfl⟩
  · show X.A.in1.units + 1 + (dI b.2).depth < cLine
    rw [depth_dI]
    show X.A.units + 1 + 1 + 1 < cLine
    omega
  · have I1 : Inv X pins σ H { s with heap := h1, toks := tk } := I.kept k1
    generalize hp : (vs.zip rows).mergeSort (dataLe false fun b => dI b.2) = ps at eo
    have hpm : ps.Perm (vs.zip rows) := by rw [← hp]; exact List.mergeSort_perm _ _
    have hlen : (ps.map (·.1)).length ≤ sizeLine := by rw [List.length_map, hpm.length_eq, List.length_zip, htl.1, Nat.min_self]; exact hz
    refine ⟨.ref h1.objs.size, upd H h1.objs.size (.lst (ps.map (·.1))), I1.laid (t' := tk) k2 (Nat.le_refl _) (show ObjOk X.prog X.w _ _ _ (.lst (ps.map (·.1))) from ⟨hlen, out, c, vals_each eo, ho⟩), rfl, q _ _ (ps.map (·.2)) (I1.hok.fresh (Nat.le_refl _)) ?_ ?_⟩
    · have z := hpm.map (·.2)
      rw [List.map_snd_zip (by rw [htl.1]; exact Nat.le_refl _)] at z
      exact z
    · refine ⟨by rw [List.length_map, List.length_map], fun i v e => ?_⟩
      rw [List.getElem?_map] at e
      cases e2 : ps[i]? with
      | none => rw [e2] at e; cases e
      | some b =>
        rw [e2] at e
        cases e
        exact ⟨b.2, by rw [List.getElem?_map, e2]; rfl, hb b (hpm.mem_iff.mp (List.mem_of_getElem? e2))⟩
end
/-- sorted(d), d a dict by tuples of small numbers -/
theorem cr_sortedZ (P : Program) (w : World) {X : Cx} (hcalm : X.calm = true) (hu : X.A.units + 64 < cLine) (hP : X.prog = P := by rfl) (hw : X.w = w := by rfl) : CallR X (.builtin "sorted") (fun xs H Q => ∃ (a : Addr) (l : List (List Nat × V)), xs = [.ref a] ∧ DZ P w H a (gT l) ∧ (∀ q ∈ l, q.1 ≠ []) ∧ SrtZ (l.map (·.1)) H Q) := by
  subst hP hw
  intro pins s σ H xs us Q I r h
  obtain ⟨d, l, rfl, hd, hne, q⟩ := h
  obtain ⟨u, rfl, rx⟩ := vals1 r
  cases rx
  obtain ⟨o, z, hs, hd0, ks, es, ep, pr, hx, hdt, he, hn⟩ := hd
  have ho := (show ObjOk X.prog X.w H s.heap d (zO d o) from I.hok d _ hd0).1
  have l1 : es.size = ks.length := size_of_entries he
  have l2 : (gT l).length = ks.length := Paired.length pr
  have l3 : l.length = ks.length := by rw [← gT_len]; exact l2
  have hkv : ∀ (i : Nat) (y : List Key × Addr × Value), ks[i]? = some y → ∃ p, l[i]? = some p ∧ Rd H y.2.1 (.tup (tI p.1)) := fun i y hy => by
    obtain ⟨x, hx1, hx2, hx3, _⟩ := DX.pget pr hy
    unfold gT at hx1
    rw [List.getElem?_map] at hx1
    cases e : l[i]? with
    | none => rw [e] at hx1; cases hx1
    | some p =>
      rw [e] at hx1
      cases hx1
      exact ⟨p, rfl, by rw [← kN_kV]; exact rd_melt hx3⟩
  have rv : Vals (ks.map fun x => V.ref x.2.1) (ks.map fun x => Value.ref x.2.1) := by
    have z := vals_refs (ks.map fun x => x.2.1)
    rw [List.map_map, List.map_map] at z
    exact z
  refine sorted_rowsZ (vs := ks.map fun x => V.ref x.2.1) I hu (fun R E hR => ?_) rv ⟨by rw [List.length_map, List.length_map, l3], fun i v e => ?_⟩ (fun p hp => ?_) (by rw [List.length_map, ← gT_len]; exact z) q
  · refine PySem.W.kdu_collect (A := X.A.in1) (kdl_raw hs hx hdt) (I.ok.hd hcalm) ho (by omega) fun h' tk acc k it => ?_
    have ea : acc.toList = ks.map fun x => Value.ref x.2.1 := by
      have hl : acc.toList.length = ks.length := by rw [Array.length_toList, it.1]; exact l1
      apply List.ext_getElem?
      intro j
      rw [List.getElem?_map]
      cases hj : acc.toList[j]? with
      | none =>
        have h1 := List.getElem?_eq_none_iff.mp hj
        rw [List.getElem?_eq_none (by omega)]
        all_goals rfl
      | some v =>
        obtain ⟨en, hen, hv⟩ := it.2 j v (by rw [← Array.getElem?_toList]; exact hj)
        have qe := entry_at he j
        rw [hen] at qe
        cases hb : ks[j]? with
        | none =>
          rw [hb] at qe
          exact nomatch (show some en = none from qe)
        | some b =>
          rw [hb] at qe
          have e2 : en = entryOfKey (tupleKind (mixKind X.prog X.w)) b := Option.some.inj qe
          rw [hv, e2]
          all_goals rfl
    rw [ea]
    exact hR h' tk k
  · rw [List.getElem?_map] at e
    cases e2 : ks[i]? with
    | none => rw [e2] at e; cases e
    | some y =>
      rw [e2] at e
      cases e
      obtain ⟨p, hp, hp2⟩ := hkv i y e2
      exact ⟨p.1, by rw [List.getElem?_map, hp]; rfl, y.2.1, rfl, hp2⟩
  · obtain ⟨b, hb, rfl⟩ := List.mem_map.mp hp
    exact hne b hb
/-! ### sorted(t), t a tuple of small numbers -/
/-- sorted(xs, key=lambda one: (len(one), one)), xs a list of tuples of small numbers; T: the tables of code objects -/
def tSortLamF (T : List (Addr × Str)) (t : TA) : TE := fun σ H Q => t σ H fun xs H1 => ∃ (a : Addr) (vs : List V) (rows : List (List Nat)), xs = [.ref a] ∧ H1 a = some (.lst vs) ∧ TF H1 vs rows ∧ rows.length ≤ 1000 ∧ LamX.Tabs T H1 ∧
  ∀ (H2 : Hp) (p : Addr) (ys : List V) (rows' : List (List Nat)), LamX.ExtN H1 H2 → LamX.Tabs T H2 → H2 p = none → rows'.Perm rows → rows'.Pairwise (fun a b => a.length ≤ b.length) → TF H2 ys rows' → Q (.ref p) (upd H2 p (.lst ys))
section
variable {X : Cx}
theorem pe_sortLamF {T : List (Addr × Str)} {c P : Addr} {e : Expr} {ta : TA} {params : Arguments} {scope : Scope} {p p1 p2 p3 p4 p5 lp kp pos : Pos} {k : Nat} {y : Str} (hu : X.A.units + 64 < cLine) (hr : Room 2 X.A) (hg : Gl X "sorted") (hm : X.mg "sorted" = none) (hml : X.mg "len" = none)
    (ha : PA X [e] ta) (TB : LamX.TabB X.base X.mg c P) (hcode : X.env.code = .ref c) (hT : (P, X.env.qual ++ "<lambda>") ∈ T) (hTu : ∀ p ∈ T, p.1 = P → p.2 = X.env.qual ++ "<lambda>") (hdef : defaultsOf params X.env = ([], []) := by rfl)
    (hfree : ∀ z ∈ scope.names, z.2 ≠ .free) (hcell : ∀ z ∈ scope.names, z.2 ≠ .cell) (hk : scope.kind = .function) (hco : scope.isCoroutine = false) (hgen : scope.isGenerator = false) (hy : scope.names.lookup y = some .local) (hl : scope.names.lookup ("len" : Str) = some .globalImplicit) (hyd : (y == ("__debug__" : Str)) = false)
    (hbind : ∀ (clos : List (Str × Addr)) (pm ctv v : Value) (c' : Addr), bindArgs (kla_fn "<lambda>" (X.env.qual ++ "<lambda>") params (lamBody p1 p2 p3 p4 p5 k y) scope clos pm (.ref c') ctv) ⟨[v], []⟩ = pure [(y, v)])
    (he : backTo pos (starEach [e] X.env) = (false, eval e X.env) :: backTo pos (starEach [] X.env) := by rfl) (hpl : (backTo pos (starEach [e] X.env)).any (·.1) = false := by rfl)
    (hkw : backToKw pos (keywordEach [⟨some "key", .Lambda params (lamBody p1 p2 p3 p4 p5 k y) scope lp, kp⟩] X.env) = [(some ("key" : Str), do let v ← eval (.Lambda params (lamBody p1 p2 p3 p4 p5 k y) scope lp) X.env; standAt pos; pure v)] := by rfl) :
    PE X (.Call (.Name "sorted" p) [e] [⟨some "key", .Lambda params (lamBody p1 p2 p3 p4 p5 k y) scope lp, kp⟩] pos) (tSortLamF T ta) := by
  refine ⟨fun pins s σ H Q I h => ?_⟩
  refine wpAny_Call_Name_kw (ld_blt I hg hm PyProof.Rows.Boot.«sorted» ?_ (by decide) (by decide))
  refine PyProof.Rows.callWith_kw (thn (ha.run pos pins s σ H _ I h) fun us s1 ⟨vs, H1, I1, r1, q1⟩ => ?_) he hpl (by rw [hkw]; rfl) (by rw [hkw]; rfl)
  obtain ⟨a, vs, rows, rfl, hH, htl, hz, hTb, q⟩ := q1
  obtain ⟨u, rfl, rx⟩ := vals1 r1
  cases rx
  rw [hkw]
  show wpAny _ _ (evalAll [do let v ← eval (.Lambda params (lamBody p1 p2 p3 p4 p5 k y) scope lp) X.env; standAt pos; pure v]) _ _ _
  refine wpAny_evalAll_cons (wpAny_bind (LamX.lam_make2 I1 TB hcode hT hTu hTb hdef (fun z hz e => absurd e (hfree z hz)) fun f c' pm ctv H2 s2 I2 eN T2 hf hfn hfr hc' => wpAny_bind (wpAny_standAt (wpAny_pure (wpAny_evalAll_nil ?_)))))
  show wpAny (model X.prog X.w) X.A (call (.builtin "sorted") [.ref a] [("key", .ref f)]) (EP X pins σ Q) X.xe s2
  obtain ⟨ht1, ht2⟩ : H2 a = some (.lst vs) ∧ TF H2 vs rows := by
    refine ⟨eN _ _ hH (fun ps z => nomatch z), htl.1, fun i v e => ?_⟩
    obtain ⟨r, h1, b, o, rfl, h2, h3⟩ := htl.2 i v e
    exact ⟨r, h1, b, o, rfl, eN _ _ h2 (fun ps z => nomatch z), h3⟩
  obtain ⟨z, its, n, rv, ho⟩ := (show ObjOk X.prog X.w H2 s2.heap a (.lst vs) from I2.hok a _ ht1)
  have hat : ∀ (i : Nat) (u : Value) (v : V) (q : List Nat), its[i]? = some u → vs[i]? = some v → rows[i]? = some q → RelV v u ∧ TupF H2 v q := fun i u v q e1 e2 e3 => by
    obtain ⟨u', h1, h2⟩ := Vals.get rv e2
    rw [e1] at h1
    cases h1
    obtain ⟨q', h3, h4⟩ := ht2.2 i v e2
    rw [e3] at h3
    cases h3
    exact ⟨h2, h4⟩
  obtain ⟨⟨oc, fv, tq, hoc, hdc, hvc⟩, _, _⟩ := I2.hok c' _ hc'
  obtain ⟨mb, hb1, hb2⟩ := I2.mod.blt
  have hlen2 : (vs.zip rows).length = rows.length := by rw [List.length_zip, ht2.1, Nat.min_self]
  refine sorted_key_data (bs := vs.zip rows) (b := false) (fun b => PyData.tuple [.int (b.2.length : Nat), dI b.2]) (R := fun u b => RelV b.1 u ∧ TupF H2 b.1 b.2) (PySem.IsL.isList ho) (each_zip rv.length.symm ht2.1 fun i u v q e1 e2 e3 => hat i u v q e1 e2 e3)
    (AllAlike.of fun b b' => by
      show alike (.tuple _) (.tuple _) = true
      rw [alike]
      simp only [alikeAll, Bool.and_eq_true]
      exact ⟨by simp [alike], alike_dI _ _, trivial⟩) (Sortable.tuples fun b => ⟨_, _, rfl⟩) (by rw [hlen2]; exact Nat.le_trans hz (by decide)) (fun b _ => ?_) (ksk_s1 _ _) (fun _ => ksk_l1 _ _) (fun _ => ksk_t1 _ _) (fun v b hR _ h tk kp => ?_) fun out c0 h' tk kp hnone hD hlo eo => ?_
  · have hd : (PyData.tuple [.int (b.2.length : Nat), dI b.2]).depth ≤ 2 := by
      simp only [PyData.depth, PyData.depthAll, depth_dI]
      decide
    omega
  · obtain ⟨rvb, tb, ob, e1, e2, _⟩ := hR
    rw [e1] at rvb
    obtain rfl : v = Value.ref tb := rvb
    obtain ⟨itb, rvt, ⟨oT, hoT, hcT, nT, hdT⟩, zT⟩ := I2.tuple (Rd.sq (K := X.K) (.inr ⟨ob, e2⟩))
    refine lam_key (hr.in1.in1.depth) (kp _ _ hf) ⟨c', oc, fv, tq, rfl, kp _ _ hoc, hdc, hvc⟩ (fun v => hbind _ _ _ v _) hk hco hgen hcell hy hl hyd ((I2.mod.glob.keeps I2.bk).keeps kp) hml ((hb1.keeps I2.bk).keeps kp) ((hb2 _ (by decide)).trans PySem.boot_len) (I2.nolimit.keeps kp) ⟨oT, kp _ _ hoT, hcT, nT, hdT⟩ ?_ (by simpa using rvt)
    rw [List.size_toArray, ← rvt.length]
    exact zT
  · generalize hp : (vs.zip rows).mergeSort (dataLe false fun b => PyData.tuple [.int (b.2.length : Nat), dI b.2]) = bs at eo
    have hpm : bs.Perm (vs.zip rows) := by rw [← hp]; exact List.mergeSort_perm _ _
    have hso : bs.Pairwise (fun a b => a.2.length ≤ b.2.length) := by
      have z := sort_pairwise (sortLe_total (PyProof.Rows.listOrd itemOrd) false fun b : V × List Nat => keyToks (PyData.tuple [.int (b.2.length : Nat), dI b.2])) (vs.zip rows)
      have e : (vs.zip rows).mergeSort (sortLe (PyProof.Rows.listOrd itemOrd) false fun b : V × List Nat => keyToks (PyData.tuple [.int (b.2.length : Nat), dI b.2])) = bs := hp
      rw [e] at z
      exact z.imp fun {a b} h => key_le h
    have hlen : (bs.map (·.1)).length ≤ sizeLine := by rw [List.length_map, hpm.length_eq, hlen2]; exact Nat.le_trans hz (by decide)
    have fresh : H2 (s2.heap.objs.size + 1) = none := I2.hok.fresh (Nat.le_succ _)
    refine ⟨.ref _, upd H2 (s2.heap.objs.size + 1) (.lst (bs.map (·.1))), I2.laid (t' := tk) kp (Nat.le_succ _) (show ObjOk X.prog X.w _ _ _ (.lst (bs.map (·.1))) from ⟨hlen, out, c0, vals_each (eo.mono fun _ _ q => q.1), hD⟩), rfl, q H2 _ _ (bs.map (·.2)) eN T2 fresh ?_ ?_ ?_⟩
    · have z := hpm.map (·.2)
      rw [List.map_snd_zip (by rw [ht2.1]; exact Nat.le_refl _)] at z
      exact z
    · exact List.pairwise_map.mpr hso
    · refine ⟨by rw [List.length_map, List.length_map], fun i v e => ?_⟩
      rw [List.getElem?_map] at e
      cases e2 : bs[i]? with
      | none => rw [e2] at e; cases e
      | some b =>
        rw [e2] at e
        cases e
        refine ⟨b.2, by rw [List.getElem?_map, e2]; rfl, ?_⟩
        have hb : b ∈ vs.zip rows := hpm.mem_iff.mp (List.mem_of_getElem? e2)
        obtain ⟨j, hj, ej⟩ := List.getElem_of_mem hb
        have e' : (vs.zip rows)[j]? = some b := by rw [List.getElem?_eq_getElem hj, ej]
        obtain ⟨e1, e3⟩ := List.getElem?_zip_eq_some.mp e'
        obtain ⟨q', h3, h4⟩ := ht2.2 j b.1 e1
        rw [e3] at h3
        cases h3
        exact h4
end
end Kn
/-! G1 -/
namespace Kn
open PySem PySem.Spec PyProof.Rows L2
theorem sc_still : FnScope ["many"] ["many"] (defScope s_still) := ⟨rfl, rfl, rfl, by decide +kernel, rfl, by decide +kernel, by decide +kernel⟩
theorem sc_product : FnScope ["one", "other", "at"] ["one", "other"] (defScope s_product) := ⟨rfl, rfl, rfl, by decide +kernel, rfl, by decide +kernel, by decide +kernel⟩
theorem sc_undone : FnScope ["turn", "found", "at", "goal"] ["turn"] (defScope s_undone) := ⟨rfl, rfl, rfl, by decide +kernel, rfl, by decide +kernel, by decide +kernel⟩
theorem sc_exchange : FnScope ["one", "other"] ["one", "other"] (defScope s_exchange) := ⟨rfl, rfl, rfl, by decide +kernel, rfl, by decide +kernel, by decide +kernel⟩
def sp_still : Sp := fun vs H Q _ => ∃ n : Nat, vs = [.int (n : Int)] ∧ n ≤ 1000 ∧ ∀ H' p, H p = none → Same H H' → H' p = some (.tup (tI (still n))) → Q (.ref p) H'
def sp_product : Sp := fun vs H Q _ => ∃ (a b : Addr) (xs ys : List Nat), vs = [.ref a, .ref b] ∧ H a = some (.tup (tI xs)) ∧ H b = some (.tup (tI ys)) ∧ (∀ x ∈ xs, x < ys.length) ∧ xs.length ≤ 1000 ∧
  ∀ H' p, H p = none → Same H H' → H' p = some (.tup (tI (mul xs ys))) → Q (.ref p) H'
def sp_undone : Sp := fun vs H Q _ => ∃ (a : Addr) (n : Nat) (xs : List Nat), vs = [.ref a] ∧ H a = some (.tup (tI xs)) ∧ IsP n xs ∧ n ≤ 1000 ∧
  ∀ H' p, H p = none → Same H H' → H' p = some (.tup (tI (inv xs))) → Q (.ref p) H'
def sp_exchange : Sp := fun vs H Q _ => ∃ (a b : Addr) (n : Nat) (xs ys : List Nat), vs = [.ref a, .ref b] ∧ H a = some (.tup (tI xs)) ∧ H b = some (.tup (tI ys)) ∧ IsP n xs ∧ IsP n ys ∧ n ≤ 1000 ∧
  ∀ H' p, H p = none → Same H H' → H' p = some (.tup (tI (exch xs ys))) → Q (.ref p) H'
section
variable {P : Program} {w : World} {K : Fr} {mg : Str → Option Value} {base : Heap} {fd : FuncData} {f : Addr}
theorem ok_still (F0 : FnP K "still" s_still f fd) (T : Bt mg) : FnOk P w K mg base CX0 1 f fd ["many"] sp_still := by
  refine F0.ok sc_still (fun vs H Q E h => ?_) (fun cdv A outer s H vs Q E hr h => ?_)
  · obtain ⟨n, rfl, _⟩ := h
    rfl
  · obtain ⟨n, rfl, hn, q⟩ := h
    refine ⟨_, PSs.nox (pss_one (ps_ret (pe_tupRg rfl (by rfl) T.tuple (prg_1 (by rfl) T.range (pv 0))))), ?_⟩
    refine ⟨_, rfl, (n : Int), rfl, RgOk.of_le (by omega) (by omega) (by omega) (by omega), fun p hp => ?_⟩
    refine q _ p hp (same_upd hp) ?_
    rw [upd_same]
    have e : rgV 0 (n : Int) = tI (still n) := by
      refine eq_tI (by rw [rgV_length]; show _ = (List.range n).length; rw [List.length_range]; omega) fun i y h => ?_
      unfold rgV at h
      rw [List.getElem?_map] at h
      have hi : i < ((n : Int) - 0).toNat := by
        cases e : (List.range ((n : Int) - 0).toNat)[i]? with
        | none => rw [e] at h; cases h
        | some j => have := (List.getElem?_eq_some_iff.mp e).1; rwa [List.length_range] at this
      rw [range_get hi] at h
      refine ⟨i, range_get (by omega), ?_⟩
      have := Option.some.inj h
      rw [← this]
      simp
    rw [e]
theorem ok_product (F0 : FnP K "product" s_product f fd) (T : Bt mg) : FnOk P w K mg base CX0 1 f fd ["one", "other"] sp_product := by
  refine F0.ok sc_product (fun vs H Q E h => ?_) (fun cdv A outer s H vs Q E hr h => ?_)
  · obtain ⟨a, b, xs, ys, rfl, _⟩ := h
    rfl
  · obtain ⟨a, b, xs, ys, rfl, ha, hb, hlt, hlen, q⟩ := h
    refine ⟨_, PSs.nox (pss_one (ps_ret (pe_callTy (callTupOf K) (by rfl) T.tuple (by decide +kernel) (pa_cons (pe_lc (own := [("at", 2)]) (g := gName 2) (tt := tYes) rfl sc_product.nd (piT K (pv 0))
  (blkOk_by (N := ["one", "other", "at"]) (sc := defScope s_product) (by decide +kernel)) (fun _ _ _ _ _ => pg_name (i := 2) sc_product.nd rfl (Or.inl rfl)) (fun _ _ _ _ _ => pts_nil) (fun _ _ _ _ _ => (pe_ix (ixT K) (pv 1) (pv 2) (fun _ _ => rfl)))) pa_nil)))), ?_⟩
    refine ⟨.ref a, rfl, a, rfl, ⟨_, SqT.of ha⟩, fun D hD => ?_⟩
    refine lc_map (wk_tup (SqT.of ha)) hD (by rw [tI_len]; omega) (fun i σ2 _ => ∃ x, (tI xs)[i]? = some x ∧ σ2 = [some (.ref a), some (.ref b), some x]) (fun i y _ => ∃ n : Nat, (mul xs ys)[i]? = some n ∧ y = V.int (n : Int))
      (fun _ _ _ _ _ _ h => h) (fun i x H' Q' hi sm hx k => k _ rfl ⟨x, hx, rfl⟩) ?_ ?_
    · rintro i σ2 H' hi sm ⟨x, hx, rfl⟩ Q' q'
      obtain ⟨n, hn, rfl⟩ := tI_get hx
      have hm : n ∈ xs := List.mem_of_getElem? hn
      have hn2 : ys[n]? = some (ys.getD n 0) := by
        rw [List.getD_eq_getElem?_getD, List.getElem?_eq_getElem (hlt n hm)]
        rfl
      exact ⟨.ref b, rfl, .int (n : Int), rfl, b, tI ys, (n : Int), .int ((ys.getD n 0 : Nat) : Int), rfl, rfl, SqT.of (sm _ _ hb), atI_nat (tI_at hn2), q' _ _ (Same.refl _) ⟨_, mul_get hn, rfl⟩⟩
    · rintro zs H' sm hd hl hr
      have e := eq_tI (ns := mul xs ys) (by rw [hl, tI_len, mul_len]) hr
      subst e
      refine ⟨D, _, rfl, .inl ⟨.inl (.inl hd), fun l hl => ?_⟩⟩
      exact q _ l (sm.free hl) (sm.upd' (sm.free hl)) upd_same
theorem ok_undone (F0 : FnP K "undone" s_undone f fd) (T : Bt mg) : FnOk P w K mg base CX0 1 f fd ["turn"] sp_undone := by
  refine F0.ok sc_undone (fun vs H Q E h => ?_) (fun cdv A outer s H vs Q E hr h => ?_)
  · obtain ⟨a, n, xs, rfl, _⟩ := h
    rfl
  · obtain ⟨a, n, xs, rfl, ha, hP, hn, q⟩ := h
    refine ⟨_, PSs.nox (pss_cons (ps_set (i := 1) sc_undone.nd rfl (Or.inl rfl) (pe_op op_rep (pe_lst (pa_cons pe_int pa_nil)) (pe_callB (callLenSeq K) (by rfl) T.len PySem.boot_len (pa_cons (pv 0) pa_nil))))
  (pss_cons (ps_for PassesOwn.never rfl (pi_enumG (by rfl) T.enumerate (pa_cons (pv 0) pa_nil)) (pg_tupK K rfl (pgs_cons (pg_name (i := 2) sc_undone.nd rfl (Or.inl rfl)) (pgs_cons (pg_name (i := 3) sc_undone.nd rfl (Or.inl rfl)) pgs_nil)))
  (pss_one (ps_asg (pv 2) (pg_sub (pv 1) (pv 3) set_list))))
  (pss_one (ps_ret (pe_callTy (callTupOf K) (by rfl) T.tuple (by decide +kernel) (pa_cons (pv 1) pa_nil)))))), ?_⟩
    -- found = [0] * len(turn)
    refine ⟨szl (by show 1 ≤ 1000000; decide), fun l hl => ?_⟩
    have s1 : Same H (upd H l (.lst [V.int 0])) := same_upd hl
    refine ⟨.ref a, rfl, a, tI xs, rfl, .inr (SqT.of (s1 _ _ ha)), l, ((tI xs).length : Int), [V.int 0], rfl, rfl, upd_same, by omega, by rw [tI_len, hP.1]; omega, by rw [tI_len, hP.1]; exact szl (by show 1 * (n : Int).toNat ≤ 1000000; omega), fun p hp => ?_⟩
    have hpH : H p = none := s1.free hp
    have e0 : (List.replicate ((tI xs).length : Int).toNat [V.int 0]).flatten = tI (List.replicate n 0) := by
      rw [tI_len, hP.1, show ((n : Int)).toNat = n by omega]
      clear hr hl hp hpH s1 q hn hP ha
      induction n with
      | zero => rfl
      | succ k ih =>
        rw [List.replicate_succ, List.flatten_cons, ih, List.replicate_succ, tI_cons]
        rfl
    rw [e0]
    have s2 : Same H (upd (upd H l (.lst [V.int 0])) p (.lst (tI (List.replicate n 0)))) := s1.trans (same_upd hp)
    refine ⟨.ref a, rfl, .ref a, tI xs, _, rfl, Src.tup a (tI xs), s2 _ _ ha, ?_⟩
    refine for_wk (wk_enum (Src.tup a (tI xs)) ha) (fun i σ H' => Same H H' ∧ (∃ v1 v2, σ = [some (.ref a), some (.ref p), v1, v2]) ∧ ∃ ys : List Nat, ys.length = n ∧ (∀ j g, j < i → xs[j]? = some g → ys[g]? = some j) ∧ H' p = some (.lst (tI ys)))
      ⟨s2, ⟨_, _, rfl⟩, List.replicate n 0, List.length_replicate, fun j g hj => absurd hj (Nat.not_lt_zero _), upd_same⟩ (fun i σ H' h => h.1) ?_ ?_
    · rintro i x σ H1 H2 hi ⟨sm, ⟨v1, v2, rfl⟩, ys, hl1, hys, hpy⟩ s12 ⟨t, y, rfl, ht, hy⟩
      obtain ⟨g, hg, rfl⟩ := tI_get hy
      have hgn : g < n := hP.2.2 g (List.mem_of_getElem? hg)
      refine ⟨t, _, rfl, SqT.of ht, rfl, _, _, rfl, _, _, rfl, rfl, ?_⟩
      refine ⟨_, rfl, _, rfl, _, rfl, p, tI ys, (g : Int), g, rfl, rfl, s12 _ _ hpy, ?_, ?_⟩
      · unfold ixN
        rw [if_pos (by omega), if_pos (by rw [tI_len, hl1]; omega)]
        simp
      · refine ⟨(sm.trans s12).upd' hpH, ⟨_, _, rfl⟩, ys.set g i, by rw [List.length_set]; exact hl1, fun j g' hj hg' => ?_, ?_⟩
        · by_cases e : g' = g
          · subst e
            rw [nodup_get_inj hP.2.1 hg' hg]
            rw [List.getElem?_set_self (by omega)]
          · rw [List.getElem?_set_ne (fun z => e z.symm)]
            refine hys j g' ?_ hg'
            have : j ≠ i := fun z => by
              subst z
              rw [hg] at hg'
              exact e (Option.some.inj hg').symm
            omega
        · rw [upd_same]
          unfold tI
          rw [List.map_set]
    · rintro σ H1 ⟨sm, ⟨v1, v2, rfl⟩, ys, hl1, hys, hpy⟩
      have e : ys = inv xs := by
        refine ext_get fun g => ?_
        by_cases hg : g < n
        · have e1 := idx_get (hP.mem hg)
          have e2 : xs.idxOf g < (tI xs).length := by rw [tI_len]; exact (List.getElem?_eq_some_iff.mp e1).1
          rw [hys _ g e2 e1]
          unfold inv
          rw [List.getElem?_map, range_get (by rw [hP.1]; exact hg)]
          rfl
        · rw [List.getElem?_eq_none (by omega), List.getElem?_eq_none (by rw [inv_len, hP.1]; omega)]
      subst e
      refine ⟨_, rfl, p, _, rfl, .inl ⟨SqL.of hpy, fun t ht => ?_⟩⟩
      exact q _ t (sm.free ht) (sm.upd' (sm.free ht)) upd_same
theorem ok_exchange (F0 : FnP K "exchange" s_exchange f fd) (F_product : Fo P w K mg base "product" ["one", "other"] 1 sp_product) (F_undone : Fo P w K mg base "undone" ["turn"] 1 sp_undone) : FnOk P w K mg base CX0 2 f fd ["one", "other"] sp_exchange := by
  refine F0.ok sc_exchange (fun vs H Q E h => ?_) (fun cdv A outer s H vs Q E hr h => ?_)
  · obtain ⟨a, b, n, xs, ys, rfl, _⟩ := h
    rfl
  · obtain ⟨a, b, n, xs, ys, rfl, ha, hb, hX, hY, hn, q⟩ := h
    refine ⟨_, PSs.nox (pss_one (ps_ret (pc F_product hr (by rfl) (pa_cons (pc F_product hr (by rfl) (pa_cons (pv 0) (pa_cons (pv 1) pa_nil))) (pa_cons (pc F_product hr (by rfl) (pa_cons (pc F_undone hr (by rfl) (pa_cons (pv 0) pa_nil)) (pa_cons (pc F_undone hr (by rfl) (pa_cons (pv 1) pa_nil)) pa_nil))) pa_nil))))), ?_⟩
    refine ⟨_, rfl, _, rfl, a, b, xs, ys, rfl, ha, hb, fun x hx => by rw [hY.1]; exact hX.2.2 x hx, by rw [hX.1]; exact hn, fun H1 p1 n1 s1 h1 => ?_⟩
    refine ⟨_, rfl, a, n, xs, rfl, s1 _ _ ha, hX, hn, fun H2 p2 n2 s2 h2 => ?_⟩
    refine ⟨_, rfl, b, n, ys, rfl, s2 _ _ (s1 _ _ hb), hY, hn, fun H3 p3 n3 s3 h3 => ?_⟩
    refine ⟨p2, p3, inv xs, inv ys, rfl, s3 _ _ h2, h3, fun x hx => by rw [hY.inv.1]; exact hX.inv.2.2 x hx, by rw [hX.inv.1]; exact hn, fun H4 p4 n4 s4 h4 => ?_⟩
    have h14 : H4 p1 = some (.tup (tI (mul xs ys))) := s4 _ _ (s3 _ _ (s2 _ _ h1))
    refine ⟨p1, p4, mul xs ys, mul (inv xs) (inv ys), rfl, h14, h4, fun x hx => by rw [mul_len, hX.inv.1]; exact (hX.mul hY).2.2 x hx, by rw [mul_len, hX.1]; exact hn, fun H5 p5 n5 s5 h5 => ?_⟩
    have sm : Same H H4 := ((s1.trans s2).trans s3).trans s4
    exact q H5 p5 (sm.free n5) (sm.trans s5) h5
end
end Kn
/-! G2 -/
set_option maxHeartbeats 1000000
namespace Kn
open PySem PySem.Spec PyProof.Rows L2
theorem sc_generated : FnScope ["makers", "many", "found", "waiting", "at", "turn", "index", "maker", "later"] ["makers", "many"] (defScope s_generated) := ⟨rfl, rfl, rfl, by decide +kernel, rfl, by decide +kernel, by decide +kernel⟩
abbrev ks (l : List (List Nat × V)) : List (List Nat) := l.map (·.1)
theorem ks_snoc (l : List (List Nat × V)) (r : List Nat) (v : V) : ks (l ++ [(r, v)]) = ks l ++ [r] := by
  show (l ++ [(r, v)]).map (·.1) = _
  rw [List.map_append]
  rfl
theorem ks_len (l : List (List Nat × V)) : (ks l).length = l.length := List.length_map _
theorem ks_at {l : List (List Nat × V)} {j : Nat} {p : List Nat × V} (h : l[j]? = some p) : (ks l)[j]? = some p.1 := by
  show (l.map (·.1))[j]? = _
  rw [List.getElem?_map, h]
  rfl
theorem snoc_at {α : Type} {l : List α} {x y : α} {j : Nat} (h : (l ++ [x])[j]? = some y) : (j < l.length ∧ l[j]? = some y) ∨ (j = l.length ∧ y = x) := by
  by_cases hj : j < l.length
  · rw [List.getElem?_append_left hj] at h
    exact .inl ⟨hj, h⟩
  · rw [List.getElem?_append_right (by omega)] at h
    have e0 : j - l.length = 0 := by
      cases q : j - l.length with
      | zero => rfl
      | succ k => rw [q] at h; simp at h
    rw [e0] at h
    exact .inr ⟨by omega, (Option.some.inj h).symm⟩
/-- the turns found so far, the first k of them gone through -/
structure Gn (ms : List (List Nat)) (n : Nat) (H : Hp) (l : List (List Nat × V)) (k : Nat) : Prop where
  le : k ≤ l.length
  nd : (ks l).Nodup
  st : still n ∈ ks l
  ok : ∀ (j : Nat) (p : List Nat × V), l[j]? = some p → IsP n p.1 ∧ ∃ w, Tup H p.2 w ∧ w.length ≤ j ∧ (∀ i ∈ w, i < ms.length) ∧ along ms n w = p.1
  cl : ∀ (j : Nat) (r : List Nat), j < k → (ks l)[j]? = some r → ∀ m ∈ ms, mul r m ∈ ks l
/-- all of them -/
structure GenD (ms : List (List Nat)) (n : Nat) (H : Hp) (l : List (List Nat × V)) : Prop where
  nd : (ks l).Nodup
  st : still n ∈ ks l
  ok : ∀ p ∈ l, IsP n p.1 ∧ ∃ w, Tup H p.2 w ∧ w.length ≤ 46656 ∧ (∀ i ∈ w, i < ms.length) ∧ along ms n w = p.1
  cl : ∀ r ∈ ks l, ∀ m ∈ ms, mul r m ∈ ks l
theorem Gn.tame {ms : List (List Nat)} {n : Nat} {H H' : Hp} {l : List (List Nat × V)} {k : Nat} (t : Tame H H') (g : Gn ms n H l k) : Gn ms n H' l k :=
  ⟨g.le, g.nd, g.st, fun j p hp => ⟨(g.ok j p hp).1, let ⟨w, h1, h2⟩ := (g.ok j p hp).2; ⟨w, h1.tame t, h2⟩⟩, g.cl⟩
theorem Gn.few {ms : List (List Nat)} {n : Nat} {H : Hp} {l : List (List Nat × V)} {k : Nat} (g : Gn ms n H l k) (hn : n ≤ 6) : l.length ≤ 46656 := by
  have h := turns_few hn g.nd fun p hp => by
    obtain ⟨q, hq, rfl⟩ := List.mem_map.mp hp
    obtain ⟨j, hj, e⟩ := List.getElem_of_mem hq
    exact (g.ok j q (by rw [List.getElem?_eq_getElem hj, e])).1
  rw [ks_len] at h
  exact h
theorem Gn.all {ms : List (List Nat)} {n : Nat} {H : Hp} {l : List (List Nat × V)} (g : Gn ms n H l l.length) (hn : n ≤ 6) : GenD ms n H l :=
  ⟨g.nd, g.st, fun p hp => by
    obtain ⟨j, hj, e⟩ := List.getElem_of_mem hp
    obtain ⟨h1, w, h2, h3, h4⟩ := g.ok j p (by rw [List.getElem?_eq_getElem hj, e])
    exact ⟨h1, w, h2, Nat.le_trans h3 (Nat.le_trans (Nat.le_of_lt hj) (g.few hn)), h4⟩, fun r hr m hm => by
    obtain ⟨j, hj, e⟩ := List.getElem_of_mem hr
    exact g.cl j r (by rw [ks_len] at hj; exact hj) (by rw [List.getElem?_eq_getElem hj, e]) m hm⟩
/-- a new one -/
theorem Gn.more {ms : List (List Nat)} {n : Nat} {H : Hp} {l : List (List Nat × V)} {k : Nat} (g : Gn ms n H l k) {r : List Nat} {v : V} {w : List Nat} (hr : r ∉ ks l) (hp : IsP n r) (hv : Tup H v w) (hl : w.length ≤ l.length) (hw : ∀ i ∈ w, i < ms.length) (ha : along ms n w = r) :
    Gn ms n H (l ++ [(r, v)]) k := by
  refine ⟨by rw [List.length_append]; exact Nat.le_trans g.le (Nat.le_add_right _ _), by rw [ks_snoc]; exact nd_snoc g.nd hr, by rw [ks_snoc]; exact List.mem_append_left _ g.st, fun j p hm => ?_, fun j r' hj hr' m hm => ?_⟩
  · rcases snoc_at hm with ⟨_, h⟩ | ⟨h, rfl⟩
    · exact g.ok j p h
    · subst h
      exact ⟨hp, w, hv, hl, hw, ha⟩
  · rw [ks_snoc] at hr' ⊢
    rcases snoc_at hr' with ⟨_, h⟩ | ⟨h, _⟩
    · exact List.mem_append_left _ (g.cl j r' hj h m hm)
    · have := g.le
      rw [ks_len] at h
      omega
def sp_generated : Sp := fun vs H Q _ => ∃ (a : Addr) (n : Nat) (vms : List V) (ms : List (List Nat)), vs = [.ref a, .int (n : Int)] ∧ H a = some (.lst vms) ∧ TL H vms ms ∧ (∀ m ∈ ms, IsP n m) ∧ n ≤ 6 ∧
  ∀ H' d l, H d = none → Same H H' → H' d = some (.dT (gT l)) → GenD ms n H' l → Q (.ref d) H'
theorem kN_eq {H : Hp} {q : Addr} {r : List Nat} (h : H q = some (.tup (tI r))) : H q = some (.tup ((kN r).map kV)) := by rw [kN_kV]; exact h
section
variable {P : Program} {w : World} {K : Fr} {mg : Str → Option Value} {base : Heap} {fd : FuncData} {f : Addr}
theorem ok_generated (F0 : FnP K "generated" s_generated f fd) (T : Bt mg) (F_still : Fo P w K mg base "still" ["many"] 1 sp_still) (F_product : Fo P w K mg base "product" ["one", "other"] 1 sp_product) : FnOk P w K mg base CX0 3 f fd ["makers", "many"] sp_generated := by
  refine F0.ok sc_generated (fun vs H Q E h => ?_) (fun cdv A outer s H vs Q E hr h => ?_)
  · obtain ⟨a, n, vms, ms, rfl, _⟩ := h
    rfl
  · obtain ⟨a, n, vms, ms, rfl, ha, hms, hP, hn, q⟩ := h
    refine ⟨_, PSs.nox (pss_cons (ps_set (i := 2) sc_generated.nd rfl (Or.inl rfl) (pe_disp1T (pc F_still hr (by rfl) (pa_cons (pv 1) pa_nil)) (pe_tup pa_nil) (hu_of hr)))
  (pss_cons (ps_par (by rfl) sc_generated.nd (i := 3) (j := 4) rfl rfl (by decide) rfl rfl (pa_cons (pe_lst (pa_cons (pc F_still hr (by rfl) (pa_cons (pv 1) pa_nil)) pa_nil)) (pa_cons pe_int pa_nil)) (by rfl))
  (pss_cons (ps_while PassesOwn.never (pt_cmpR op_lt (pv 4) (pe_callB (callLenSeq K) (by rfl) T.len PySem.boot_len (pa_cons (pv 3) pa_nil)) (nomark _)) (pss_cons (ps_set (i := 5) sc_generated.nd rfl (Or.inl rfl) (pe_ix (ixL K) (pv 3) (pv 4) (fun _ _ => rfl)))
  (pss_cons (ps_aug (i := 4) sc_generated.nd rfl (Or.inl rfl) pe_int ip_add)
  (pss_one (ps_for PassesOwn.never rfl (pi_enumG (by rfl) T.enumerate (pa_cons (pv 0) pa_nil)) (pg_tupK K rfl (pgs_cons (pg_name (i := 6) sc_generated.nd rfl (Or.inl rfl)) (pgs_cons (pg_name (i := 7) sc_generated.nd rfl (Or.inl rfl)) pgs_nil)))
  (pss_cons (ps_set (i := 8) sc_generated.nd rfl (Or.inl rfl) (pc F_product hr (by rfl) (pa_cons (pv 5) (pa_cons (pv 7) pa_nil))))
  (pss_one (ps_if (pt_cmp (pc_dnotin (hu_of hr) (pv 8) (pv 2))) (pss_cons (ps_dput (hu_of hr) (pv 2) (pv 8) (pe_tup (pa_starK K (pe_dget (hu_of hr) (pv 2) (pv 5) (fun _ _ => rfl)) (pa_cons (pv 6) pa_nil))) rfl)
  (pss_one (ps_expr (pe_bm PySem.F.plainAttrs_list PySem.F.slot_list_append PySem.F.type_list_append mt_append (pv 3) (pa_cons (pv 8) pa_nil))))) pss_nil))))))))
  (pss_one (ps_ret (pv 2)))))), ?_⟩
    -- found = {still(many): ()}
    intro d hd
    have s1 : Same H (upd H d (.dT [])) := same_upd hd
    refine ⟨_, rfl, n, rfl, by omega, fun H1 b1 nb1 sb1 hb1 => ?_⟩
    have h1d : H1 d = some (.dT []) := sb1 _ _ upd_same
    refine ⟨Nat.zero_le _, fun b2 nb2 => ?_⟩
    have nd2 : d ≠ b2 := ne_of_none h1d nb2
    refine ⟨by rw [upd_ne nd2]; exact h1d, b1, kN (still n), rfl, kN_eq (same_upd nb2 _ _ hb1), ?_⟩
    -- waiting, at = [still(many)], 0
    generalize hH2 : upd (upd H1 b2 (.tup [])) d (.dT [(kN (still n), V.ref b2)]) = H2
    have hb2 : H2 b2 = some (.tup (tI [])) := by rw [← hH2, upd_ne nd2.symm, upd_same]; rfl
    have hb1' : H2 b1 = some (.tup (tI (still n))) := by
      rw [← hH2, upd_ne (ne_of hb1 h1d (fun z => nomatch z))]
      exact same_upd nb2 _ _ hb1
    have hd2 : H2 d = some (.dT (gT [(still n, V.ref b2)])) := by rw [← hH2, upd_same]; rfl
    have s2 : Same H H2 := by
      rw [← hH2]
      exact ((s1.trans sb1).trans (same_upd nb2)).upd' hd
    refine ⟨_, rfl, n, rfl, by omega, fun H3 b3 nb3 sb3 hb3 => ?_⟩
    refine ⟨szl (by show 1 ≤ 1000000; decide), fun q1 hq1 => ?_⟩
    have hq1H : H q1 = none := (s2.trans sb3).free hq1
    have hd3 : H3 d = some (.dT (gT [(still n, V.ref b2)])) := sb3 _ _ hd2
    refine ⟨_, _, rfl, ?_⟩
    -- while at < len(waiting)
    refine ⟨fun m σ H' => ∃ l vs k v5 v6 v7 v8, σ = [some (.ref a), some (.int (n : Int)), some (.ref d), some (.ref q1), some (.int ((k : Nat) : Int)), v5, v6, v7, v8] ∧ m = 46656 - k ∧ Same H H' ∧ H' d = some (.dT (gT l)) ∧
      H' q1 = some (.lst vs) ∧ TL H' vs (ks l) ∧ Gn ms n H' l k, ⟨46656, [(still n, V.ref b2)], [V.ref b3], 0, none, none, none, none, rfl, rfl, (s2.trans sb3).upd' hq1H, ?_, upd_same, ?_, ?_⟩, ?_⟩
    · rw [upd_ne (ne_of_none hd3 hq1)]
      exact hd3
    · exact TL.nil.snoc ⟨b3, rfl, same_upd hq1 _ _ hb3⟩
    · refine ⟨Nat.zero_le _, by simp, by simp, fun j p hp => ?_, fun j r hj => absurd hj (Nat.not_lt_zero _)⟩
      have e : p = (still n, V.ref b2) := List.mem_singleton.mp (List.mem_of_getElem? hp)
      subst e
      exact ⟨isP_still n, [], ⟨b2, rfl, same_upd hq1 _ _ (sb3 _ _ hb2)⟩, Nat.zero_le _, fun i hi => (List.not_mem_nil hi).elim, rfl⟩
    · rintro m σ H4 ⟨l, vs, k, v5, v6, v7, v8, rfl, rfl, sm, h4d, h4w, htl, hG⟩
      refine ⟨_, rfl, _, rfl, q1, vs, rfl, .inl (SqL.of h4w), _, _, rfl, rfl, _, rfl, ?_⟩
      have hvl : vs.length = l.length := by rw [htl.1, ks_len]
      refine ite2 (fun hlt => ?_) (fun hge => ?_)
      · have hkl : k < l.length := by have := of_decide_eq_true hlt; omega
        have hfew := hG.few hn
        have hks : (ks l)[k]? = some l[k].1 := ks_at (List.getElem?_eq_getElem hkl)
        obtain ⟨tv, htv, hT⟩ := htl.at hks
        obtain ⟨hPr, wr, hwr, hwl, hwi, hwa⟩ := hG.ok k l[k] (List.getElem?_eq_getElem hkl)
        generalize hr : l[k].1 = r at *
        refine ⟨fun σ' H' => ∃ l vs v5 v6 v7 v8, σ' = [some (.ref a), some (.int (n : Int)), some (.ref d), some (.ref q1), some (.int ((k + 1 : Nat) : Int)), v5, v6, v7, v8] ∧ Same H H' ∧ H' d = some (.dT (gT l)) ∧
          H' q1 = some (.lst vs) ∧ TL H' vs (ks l) ∧ Gn ms n H' l (k + 1), fun σ' H' ⟨l, vs, v5, v6, v7, v8, e, x1, x2, x3, x4, x5⟩ => ⟨46656 - (k + 1), by omega, l, vs, k + 1, v5, v6, v7, v8, e, rfl, x1, x2, x3, x4, x5⟩, ?_⟩
        -- turn = waiting[at]; at += 1
        refine ⟨_, rfl, _, rfl, q1, vs, (k : Int), tv, rfl, rfl, SqL.of h4w, atI_nat htv, ?_⟩
        refine ⟨_, rfl, _, _, rfl, rfl, ?_⟩
        -- for index, maker in enumerate(makers)
        refine ⟨_, rfl, .ref a, vms, _, rfl, Src.lst a vms, sm _ _ ha, ?_⟩
        refine for_wk (wk_enum (Src.lst a vms) ha) (fun i σ H' => Same H H' ∧ ∃ l vs v6 v7 v8, σ = [some (.ref a), some (.int (n : Int)), some (.ref d), some (.ref q1), some (.int ((k : Int) + 1)), some tv, v6, v7, v8] ∧ H' d = some (.dT (gT l)) ∧
          H' q1 = some (.lst vs) ∧ TL H' vs (ks l) ∧ Gn ms n H' l k ∧ k < l.length ∧ Tup H' tv r ∧ (ks l)[k]? = some r ∧ (∃ p, l[k]? = some p ∧ p.1 = r) ∧ ∀ (j : Nat) (m : List Nat), j < i → ms[j]? = some m → mul r m ∈ ks l)
          ⟨sm, l, vs, v6, v7, v8, rfl, h4d, h4w, htl, hG, hkl, hT, hks, ⟨_, List.getElem?_eq_getElem hkl, hr⟩, fun j m hj => absurd hj (Nat.not_lt_zero _)⟩ (fun i σ H h => h.1) ?_ ?_
        · rintro i x σ H5 H6 hi ⟨sm5, l, vs, v6, v7, v8, rfl, h5d, h5w, htl, hG, hkl, hT, hks, ⟨p, hp, hpr⟩, hcl⟩ s56 ⟨t, y, rfl, ht, hy⟩
          obtain ⟨mm, hmm, am, rfl, ham⟩ := hms.2 i y hy
          obtain ⟨at_, rfl, hat⟩ := hT
          have hPm : IsP n mm := hP mm (List.mem_of_getElem? hmm)
          have hPr : IsP n r := by rw [← hpr]; exact (hG.ok k p hp).1
          have sm6 : Same H H6 := sm5.trans s56
          have h6d := s56 _ _ h5d
          have h6w := s56 _ _ h5w
          refine ⟨t, _, rfl, SqT.of ht, rfl, _, _, rfl, _, _, rfl, rfl, ?_⟩
          -- later = product(turn, maker)
          refine ⟨_, rfl, _, rfl, at_, am, r, mm, rfl, s56 _ _ hat, sm6 _ _ ham, fun x hx => by rw [hPm.1]; exact hPr.2.2 x hx, by rw [hPr.1]; omega, fun H7 p7 n7 s67 h7 => ?_⟩
          have h7d := s67 _ _ h6d
          have h7w := s67 _ _ h6w
          have t57 : Tame H5 H7 := Tame.of (s56.trans s67)
          -- if later not in found
          refine ⟨_, rfl, _, rfl, d, _, rfl, DGet.t h7d (kN_eq h7), _, rfl, ?_⟩
          have hfew := hG.few hn
          refine ite2 (fun hnew => ?_) (fun hold => ?_)
          · have hnk : mul r mm ∉ ks l := fun hin => by
              obtain ⟨p', hp', e'⟩ := List.mem_map.mp hin
              have e'' : (mul r mm, p'.2) ∈ l := by rw [← e']; exact hp'
              rw [val_gT_some hG.nd e''] at hnew
              cases hnew
            obtain ⟨_, wr, hwr, hwl, hwi, hwa⟩ := hG.ok k p hp
            obtain ⟨ap, hap, hap2⟩ := hwr
            have hval : valV (gT l) (kN r) = some p.2 := val_gT_some hG.nd (by rw [← hpr]; exact List.mem_of_getElem? hp)
            -- found[later] = (*found[turn], index)
            refine ⟨_, rfl, _, rfl, d, p.2, rfl, by rw [← hval]; exact DGet.t h7d (kN_eq (s67 _ _ (s56 _ _ hat))), ?_⟩
            refine ⟨ap, _, hap, .inl (SqT.of (s67 _ _ (s56 _ _ hap2))), ?_⟩
            refine ⟨_, rfl, szl (by rw [List.length_append, tI_len]; show wr.length + 1 ≤ _; omega), fun p8 n8 => ?_⟩
            have e8 : tI wr ++ [V.int ((i : Nat) : Int)] = tI (wr ++ [i]) := by unfold tI; rw [List.map_append]; rfl
            have e8' : tI wr ++ [V.int ((i : Nat) : Int)] ++ [] = tI (wr ++ [i]) := by rw [List.append_nil, e8]
            have h8 : (upd H7 p8 (.tup (tI wr ++ [V.int ((i : Nat) : Int)]))) p8 = some (.tup (tI (wr ++ [i]))) := by rw [upd_same, e8]
            have h8d : (upd H7 p8 (.tup (tI wr ++ [V.int ((i : Nat) : Int)]))) d = some (.dT (gT l)) := same_upd n8 _ _ h7d
            have h8w := same_upd (o := .tup (tI wr ++ [V.int ((i : Nat) : Int)])) n8 _ _ h7w
            have h87 := same_upd (o := .tup (tI wr ++ [V.int ((i : Nat) : Int)])) n8 _ _ h7
            have s78 : Same H7 (upd H7 p8 (.tup (tI wr ++ [V.int ((i : Nat) : Int)]))) := same_upd n8
            generalize hH8 : upd H7 p8 (.tup (tI wr ++ [V.int ((i : Nat) : Int)])) = H8 at h8 h8d h8w h87 s78
            refine ⟨_, rfl, _, rfl, d, _, rfl, DPut.t h8d (kN_eq h87) (by rw [gT_len]; exact szl' (by omega)), ?_⟩
            -- waiting.append(later)
            rw [put_gT _ hnk]
            have e9 : (upd H8 d (.dT (gT (l ++ [(mul r mm, V.ref p8)])))) q1 = some (.lst vs) := by rw [upd_ne (ne_of h8w h8d (fun z => nomatch z))]; exact h8w
            have t89 : Tame H8 (upd H8 d (.dT (gT (l ++ [(mul r mm, V.ref p8)])))) := Tame.upd (Soft.dT h8d)
            have t9 : Tame (upd H8 d (.dT (gT (l ++ [(mul r mm, V.ref p8)])))) (upd (upd H8 d (.dT (gT (l ++ [(mul r mm, V.ref p8)])))) q1 (.lst (vs ++ [V.ref p7]))) := Tame.upd (Soft.lst e9)
            have t59 := ((t57.trans (Tame.of s78)).trans t89).trans t9
            have t89' := t89.trans t9
            have hdq : d ≠ q1 := ne_of h8d h8w (fun z => nomatch z)
            refine ⟨.ref q1, rfl, .inl ⟨rfl, _, SqL.of e9⟩, _, rfl, q1, vs, .ref p7, rfl, rfl, e9, by rw [htl.1, ks_len]; exact szl' (by omega), ?_⟩
            refine ⟨((((sm6.trans s67).trans s78).upd' hd).upd' hq1H), l ++ [(mul r mm, V.ref p8)], vs ++ [V.ref p7], _, _, _, rfl, ?_, upd_same, ?_, ?_, ?_, ?_, ?_, ?_, ?_⟩
            · rw [upd_ne hdq, upd_same]
            · rw [ks_snoc]
              exact (htl.tame t59).snoc ⟨p7, rfl, t89'.1 _ _ h87⟩
            · refine (hG.tame t59).more hnk (hPr.mul hPm) ⟨p8, rfl, t89'.1 _ _ h8⟩ (by rw [List.length_append]; show wr.length + 1 ≤ l.length; omega) (fun z hz => ?_) ?_
              · rcases List.mem_append.mp hz with hz | hz
                · exact hwi z hz
                · rw [List.mem_singleton.mp hz]; exact (List.getElem?_eq_some_iff.mp hmm).1
              · rw [along_snoc, hwa, hpr, List.getD_eq_getElem?_getD, hmm]
                rfl
            · rw [List.length_append]; omega
            · exact ⟨at_, rfl, t59.1 _ _ hat⟩
            · rw [ks_snoc, List.getElem?_append_left (by rw [ks_len]; exact hkl)]; exact hks
            · exact ⟨p, by rw [List.getElem?_append_left hkl]; exact hp, hpr⟩
            · intro j m hj hm
              rw [ks_snoc]
              rcases Nat.lt_or_ge j i with h | h
              · exact List.mem_append_left _ (hcl j m h hm)
              · have ej : j = i := by omega
                subst ej
                rw [hmm] at hm
                cases hm
                exact List.mem_append_right _ (List.mem_singleton.mpr rfl)
          · have hin : mul r mm ∈ ks l := by
              by_cases hin : mul r mm ∈ ks l
              · exact hin
              · exact absurd (by rw [val_gT_none hin]; rfl) hold
            refine ⟨sm6.trans s67, l, vs, _, _, _, rfl, h7d, h7w, htl.tame t57, hG.tame t57, hkl, ⟨at_, rfl, t57.1 _ _ hat⟩, hks, ⟨p, hp, hpr⟩, fun j m hj hm => ?_⟩
            rcases Nat.lt_or_ge j i with h | h
            · exact hcl j m h hm
            · have ej : j = i := by omega
              subst ej
              rw [hmm] at hm
              cases hm
              exact hin
        · rintro σ H5 ⟨sm5, l, vs, v6, v7, v8, rfl, h5d, h5w, htl, hG, hkl, hT, hks, ⟨p, hp, hpr⟩, hcl⟩
          refine ⟨l, vs, _, _, _, _, rfl, sm5, h5d, h5w, htl, hkl, hG.nd, hG.st, hG.ok, fun j r' hj hr' m hm => ?_⟩
          rcases Nat.lt_or_ge j k with h | h
          · exact hG.cl j r' h hr' m hm
          · have ej : j = k := by omega
            subst ej
            rw [hks] at hr'
            cases hr'
            obtain ⟨jm, hjm, ejm⟩ := List.getElem_of_mem hm
            exact hcl jm m (by rw [hms.1]; exact hjm) (by rw [List.getElem?_eq_getElem hjm, ejm])
      · have hkl : k = l.length := by
          have h1 := hG.le
          have h2 : ¬ ((k : Int) < (vs.length : Int)) := fun z => hge (decide_eq_true z)
          omega
        subst hkl
        refine ⟨_, rfl, q H4 d l hd sm h4d (hG.all hn)⟩
end
end Kn
/-! M1 -/
namespace Kn
/-! ### turns as a group, to let the computer cancel -/
def Pm (n : Nat) : Type := { p : List Nat // IsP n p }
instance (n : Nat) : Mul (Pm n) := ⟨fun a b => ⟨mul a.1 b.1, a.2.mul b.2⟩⟩
def Pm.one (n : Nat) : Pm n := ⟨still n, isP_still n⟩
def Pm.iv {n : Nat} (a : Pm n) : Pm n := ⟨inv a.1, a.2.inv⟩
section
variable {n : Nat} (a b c : Pm n)
theorem Pm.assoc : a * b * c = a * (b * c) := Subtype.ext (mul_assoc a.2.2.2 b.2.1)
theorem Pm.one_mul : Pm.one n * a = a := Subtype.ext (still_mul a.2.1)
theorem Pm.mul_one : a * Pm.one n = a := Subtype.ext (mul_still a.2.2.2)
theorem Pm.mul_iv : a * a.iv = Pm.one n := Subtype.ext (mul_inv a.2)
theorem Pm.iv_mul : a.iv * a = Pm.one n := Subtype.ext (inv_mul a.2)
theorem Pm.mul_ivc : a * (a.iv * b) = b := by rw [← Pm.assoc, Pm.mul_iv, Pm.one_mul]
theorem Pm.iv_mulc : a.iv * (a * b) = b := by rw [← Pm.assoc, Pm.iv_mul, Pm.one_mul]
theorem Pm.eq_iv {a b : Pm n} (h : a * b = Pm.one n) : b = a.iv := by
  have e := congrArg (fun x => a.iv * x) h
  simp only [Pm.iv_mulc, Pm.mul_one] at e
  exact e
theorem Pm.iv_iv : a.iv.iv = a := (Pm.eq_iv (Pm.iv_mul a)).symm
theorem Pm.iv_prod : (a * b).iv = b.iv * a.iv := (Pm.eq_iv (a := a * b) (by rw [Pm.assoc, Pm.mul_ivc, Pm.mul_iv])).symm
theorem Pm.iv_one : (Pm.one n).iv = Pm.one n := (Pm.eq_iv (Pm.one_mul (Pm.one n))).symm
end
def Pm.ex {n : Nat} (a b : Pm n) : Pm n := a * b * (a.iv * b.iv)
theorem exch_prod {n : Nat} (a x y : Pm n) : a.ex (x * y) = a.ex x * ((x * a).ex y * (x.ex y).iv) := by
  simp only [Pm.ex, Pm.assoc, Pm.iv_prod, Pm.iv_iv, Pm.iv_mulc, Pm.mul_ivc]
theorem exch_one {n : Nat} (a : Pm n) : a.ex (Pm.one n) = Pm.one n := by
  simp only [Pm.ex, Pm.assoc, Pm.iv_one, Pm.mul_one, Pm.one_mul, Pm.mul_iv]
/-! ### groups -/
structure Grp (n : Nat) (ts : List (List Nat)) : Prop where
  nd : ts.Nodup
  st : still n ∈ ts
  ok : ∀ t ∈ ts, IsP n t
  cl : ∀ a ∈ ts, ∀ b ∈ ts, mul a b ∈ ts
theorem Grp.inv {n : Nat} {ts : List (List Nat)} (G : Grp n ts) {a : List Nat} (ha : a ∈ ts) : inv a ∈ ts := by
  have hinj : ∀ x ∈ ts, ∀ y ∈ ts, mul a x = mul a y → x = y := fun x hx y hy e => by
    have e2 : mul (Kn.inv a) (mul a x) = mul (Kn.inv a) (mul a y) := by rw [e]
    rw [← mul_assoc (G.ok a ha).inv.2.2 (G.ok a ha).1, ← mul_assoc (G.ok a ha).inv.2.2 (G.ok a ha).1, inv_mul (G.ok a ha), still_mul (G.ok x hx).1, still_mul (G.ok y hy).1] at e2
    exact e2
  have hm := all_met (l := ts.map (mul a)) (m := ts) (map_nodup G.nd hinj) (fun z hz => by
    obtain ⟨x, hx, rfl⟩ := List.mem_map.mp hz
    exact G.cl a ha x hx) (by rw [List.length_map]; exact Nat.le_refl _) (still n) G.st
  obtain ⟨x, hx, e⟩ := List.mem_map.mp hm
  have e3 : (⟨x, G.ok x hx⟩ : Pm n) = Pm.iv ⟨a, G.ok a ha⟩ := Pm.eq_iv (Subtype.ext e)
  have e4 : x = Kn.inv a := congrArg Subtype.val e3
  rw [← e4]
  exact hx
theorem Grp.exch {n : Nat} {ts : List (List Nat)} (G : Grp n ts) {a b : List Nat} (ha : a ∈ ts) (hb : b ∈ ts) : exch a b ∈ ts := G.cl _ (G.cl a ha b hb) _ (G.cl _ (G.inv ha) _ (G.inv hb))
/-- t comes of ms -/
def OfM (ms : List (List Nat)) (n : Nat) (t : List Nat) : Prop := ∃ w : List Nat, (∀ i ∈ w, i < ms.length) ∧ along ms n w = t
theorem along_foldl (ms ms' : List (List Nat)) : ∀ (w : List Nat) (a : List Nat), (∀ i ∈ w, ms'.getD i [] = ms.getD i []) → w.foldl (fun acc i => mul acc (ms'.getD i [])) a = w.foldl (fun acc i => mul acc (ms.getD i [])) a
  | [], _, _ => rfl
  | i :: w, a, h => by
    rw [List.foldl_cons, List.foldl_cons, h i List.mem_cons_self]
    exact along_foldl ms ms' w _ fun j hj => h j (List.mem_cons_of_mem _ hj)
theorem along_more {ms : List (List Nat)} {n : Nat} {w : List Nat} (x : List Nat) (h : ∀ i ∈ w, i < ms.length) : along (ms ++ [x]) n w = along ms n w :=
  along_foldl ms (ms ++ [x]) w _ fun i hi => by
    rw [List.getD_eq_getElem?_getD, List.getD_eq_getElem?_getD, List.getElem?_append_left (h i hi)]
theorem along_last {ms : List (List Nat)} {n : Nat} {x : List Nat} (hx : x.length = n) : along (ms ++ [x]) n [ms.length] = x := by
  show mul (still n) ((ms ++ [x]).getD ms.length []) = x
  rw [List.getD_eq_getElem?_getD, List.getElem?_append_right (Nat.le_refl _), Nat.sub_self]
  exact still_mul hx
theorem OfM.more {ms : List (List Nat)} {n : Nat} {t : List Nat} (x : List Nat) (h : OfM ms n t) : OfM (ms ++ [x]) n t := by
  obtain ⟨w, h1, h2⟩ := h
  exact ⟨w, fun i hi => by rw [List.length_append]; exact Nat.lt_of_lt_of_le (h1 i hi) (Nat.le_add_right _ _), by rw [along_more x h1, h2]⟩
theorem OfM.last {ms : List (List Nat)} {n : Nat} {x : List Nat} (hx : x.length = n) : OfM (ms ++ [x]) n x :=
  ⟨[ms.length], fun i hi => by rw [List.mem_singleton.mp hi, List.length_append]; exact Nat.lt_succ_self _, along_last hx⟩
theorem ofM_still {ms : List (List Nat)} {n : Nat} : OfM ms n (Kn.still n) := ⟨[], fun i hi => (List.not_mem_nil hi).elim, rfl⟩
theorem getD_at {ms : List (List Nat)} {i : Nat} (h : i < ms.length) : ms.getD i [] ∈ ms := by
  rw [List.getD_eq_getElem?_getD, List.getElem?_eq_getElem h]
  exact List.getElem_mem h
/-- induction along the words of makers -/
theorem along_ind {ms : List (List Nat)} {n : Nat} {C : List Nat → Prop} (h0 : C (still n)) (hs : ∀ x m, C x → m ∈ ms → C (mul x m)) : ∀ (w : List Nat), (∀ i ∈ w, i < ms.length) → C (along ms n w) := by
  intro w
  have key : ∀ (w : List Nat) (a : List Nat), C a → (∀ i ∈ w, i < ms.length) → C (w.foldl (fun acc i => mul acc (ms.getD i [])) a) := by
    intro w
    induction w with
    | nil => exact fun a ha _ => ha
    | cons i w ih => exact fun a ha h => ih _ (hs a _ ha (getD_at (h i List.mem_cons_self))) fun j hj => h j (List.mem_cons_of_mem _ hj)
  exact key w _ h0
theorem OfM.ind {ms : List (List Nat)} {n : Nat} {t : List Nat} {C : List Nat → Prop} (h : OfM ms n t) (h0 : C (still n)) (hs : ∀ x m, C x → m ∈ ms → C (mul x m)) : C t := by
  obtain ⟨w, h1, h2⟩ := h
  rw [← h2]
  exact along_ind h0 hs w h1
/-- the turns that come of makers are a group -/
theorem grp_of {n : Nat} {ms ns : List (List Nat)} (nd : ns.Nodup) (st : still n ∈ ns) (hP : ∀ m ∈ ms, IsP n m) (hw : ∀ x ∈ ns, OfM ms n x) (hc : ∀ x ∈ ns, ∀ m ∈ ms, mul x m ∈ ns) : Grp n ns := by
  have ok : ∀ t ∈ ns, IsP n t := fun t ht => (hw t ht).ind (isP_still n) fun x m hx hm => hx.mul (hP m hm)
  refine ⟨nd, st, ok, fun a ha b hb => ?_⟩
  have q : IsP n b ∧ mul a b ∈ ns := (hw b hb).ind (C := fun b => IsP n b ∧ mul a b ∈ ns) ⟨isP_still n, by rw [mul_still (ok a ha).2.2]; exact ha⟩ fun x m hx hm =>
    ⟨hx.1.mul (hP m hm), by rw [← mul_assoc (ok a ha).2.2 hx.1.1]; exact hc _ hx.2 m hm⟩
  exact q.2
/-- exchanges with makers are in a group: then all exchanges are -/
theorem exch_all {n : Nat} {ts ns ms : List (List Nat)} (G : Grp n ts) (N : Grp n ns) (hm : ∀ m ∈ ms, m ∈ ts) (hw : ∀ t ∈ ts, OfM ms n t) (he : ∀ t ∈ ts, ∀ m ∈ ms, exch t m ∈ ns) : ∀ a ∈ ts, ∀ b ∈ ts, exch a b ∈ ns := by
  have key : ∀ b, OfM ms n b → b ∈ ts ∧ ∀ a ∈ ts, exch a b ∈ ns := fun b hb => by
    refine hb.ind (C := fun b => b ∈ ts ∧ ∀ a ∈ ts, exch a b ∈ ns) ⟨G.st, fun a ha => ?_⟩ fun x m hx hmm => ⟨G.cl x hx.1 m (hm m hmm), fun a ha => ?_⟩
    · have e : exch a (still n) = still n := congrArg Subtype.val (exch_one (⟨a, G.ok a ha⟩ : Pm n))
      rw [e]
      exact N.st
    · have e : exch a (mul x m) = mul (exch a x) (mul (exch (mul x a) m) (inv (exch x m))) := congrArg Subtype.val (exch_prod (⟨a, G.ok a ha⟩ : Pm n) ⟨x, G.ok x hx.1⟩ ⟨m, G.ok m (hm m hmm)⟩)
      rw [e]
      exact N.cl _ (hx.2 a ha) _ (N.cl _ (he _ (G.cl x hx.1 a ha) m hmm) _ (N.inv (he x hx.1 m hmm)))
  exact fun a ha b hb => (key b (hw b hb)).2 a ha
/-- x is a product of turns of which C is true -/
def GenBy (C : List Nat → Prop) (n : Nat) (x : List Nat) : Prop := ∃ ms, (∀ m ∈ ms, C m) ∧ OfM ms n x
theorem GenBy.mem {C : List Nat → Prop} {n : Nat} {x : List Nat} {ns : List (List Nat)} (h : GenBy C n x) (N : Grp n ns) (hc : ∀ c, C c → c ∈ ns) : x ∈ ns := by
  obtain ⟨ms, h1, h2⟩ := h
  exact h2.ind N.st fun y m hy hm => N.cl y hy m (hc m (h1 m hm))
end Kn
/-! G3 -/
set_option maxHeartbeats 1000000
namespace Kn
open PySem PySem.Spec PyProof.Rows L2
theorem sw_trueD {kx vx : Expr} {gs : List Comprehension} {scope : Scope} {pos py : Pos} {y : Str} {l : Nat} {env : Env} (hk : env.scope.kind = .function) (hy : env.scope.names.lookup y = some .local) (hl : (py.line == pos.line) = true)
    (ha : (scope.names.any fun (n, k) => n == y && (k == .local || k == .cell)) = false) : swapsWith (.DictComp kx vx gs scope pos) (some (.Name y py)) l env = pure true := by
  have ky : env.kindOf y = some .local := hy
  have hb : env.blockKind = .function := by unfold Env.blockKind; rw [hk]; rfl
  unfold swapsWith
  simp only [hb, ky, ha, Expr.pos, hl]
  rfl
/-- {k: v for tg in J for tg1 in J1} over walks that change nothing that stood at H0 -/
theorem dc2_wk {J : It} {H0 : Hp} {n : Nat} {Xr : Nat → V → Hp → Prop} {g g1 : TG} {wi1 : TI} {tk tv : TE} {vs vs1 : List Nat} {σ : L2.St} {H1 : Hp} {D : Addr} {Qd : Hp → Prop} (Wl : Wk J H0 n Xr) (n1 : Nat) (Pv : Nat → Nat → Hp → Prop)
    (h0 : Pv 0 0 (upd H1 D (.dT []))) (hS : ∀ i j H, Pv i j H → Same H0 H) (hend : ∀ i H, i < n → Pv i n1 H → Pv (i + 1) 0 H)
    (hs : ∀ i x H H', i < n → Pv i 0 H → Same H H' → Xr i x H' → g x (wipe σ vs) H' fun σ2 H2 => wipe σ2 vs = wipe σ vs ∧ wi1 σ2 H2 fun J1 H4 => Pv i 0 H4 ∧ ∃ Xr1, Wk J1 H0 n1 Xr1 ∧ ∀ j x1 H H', j < n1 → Pv i j H → Same H H' → Xr1 j x1 H' → g1 x1 (wipe σ2 vs1) H' fun σ3 H5 => wipe σ3 vs1 = wipe σ2 vs1 ∧
      tk σ3 H5 fun y H7 => tv σ3 H7 fun z H8 => ∃ (kvs : List (List Key × V)) (k : List Key) (bk : Addr), y = .ref bk ∧ H8 bk = some (.tup (k.map kV)) ∧ H8 D = some (.dT kvs) ∧ kvs.length < sizeLine ∧ Pv i (j + 1) (upd H8 D (.dT (putK kvs k z))))
    (hd : ∀ H, Pv n 0 H → Qd H) (mono : ∀ (σ2 : L2.St) (H : Hp) (R R' : It → Hp → Prop), (∀ J1 H4, R J1 H4 → R' J1 H4) → wi1 σ2 H R → wi1 σ2 H R') (monog : ∀ (x : V) (σ2 : L2.St) (H : Hp) (R R' : L2.St → Hp → Prop), (∀ σ3 H4, R σ3 H4 → R' σ3 H4) → g x σ2 H R → g x σ2 H R') :
    ∃ W : Nat → Nat → Hp → Prop, (∃ m, W 0 m (upd H1 D (.dT []))) ∧ ∀ i m H, W i m H →
      (J.stop i H ∧ Qd H) ∨ (J.go i H ∧ ∃ Nx : Hp → Prop, (∀ H', Nx H' → ∃ m', m' < m ∧ W (i + 1) m' H') ∧ ∀ x H', J.yld i H x H' → g x (wipe σ vs) H' fun σ2 H2 => wipe σ2 vs = wipe σ vs ∧ tYes σ2 H2 fun b H3 =>
        if b = true then wi1 σ2 H3 fun J1 H4 => ∃ W1 : Nat → Nat → Hp → Prop, (∃ m, W1 0 m H4) ∧ ∀ j k H, W1 j k H →
          (J1.stop j H ∧ Nx H) ∨ (J1.go j H ∧ ∃ Nx1 : Hp → Prop, (∀ H', Nx1 H' → ∃ k', k' < k ∧ W1 (j + 1) k' H') ∧ ∀ x H', J1.yld j H x H' → g1 x (wipe σ2 vs1) H' fun σ3 H5 => wipe σ3 vs1 = wipe σ2 vs1 ∧ tYes σ3 H5 fun b H6 =>
            if b = true then tk σ3 H6 fun y H7 => tv σ3 H7 fun z H8 => ∃ (kvs : List (List Key × V)) (k : List Key) (bk : Addr), y = .ref bk ∧ H8 bk = some (.tup (k.map kV)) ∧ H8 D = some (.dT kvs) ∧ kvs.length < sizeLine ∧ Nx1 (upd H8 D (.dT (putK kvs k z))) else Nx1 H6)
        else Nx H3) := by
  refine ⟨fun i m H => m = n - i ∧ i ≤ n ∧ Pv i 0 H, ⟨n, by simp, Nat.zero_le _, h0⟩, ?_⟩
  rintro i m H ⟨rfl, hi, p⟩
  have q := hS i 0 H p
  by_cases hlt : i < n
  · refine .inr ⟨Wl.go i H q hlt, Pv (i + 1) 0, fun H' p' => ⟨n - (i + 1), by omega, rfl, hlt, p'⟩, fun x H' y => ?_⟩
    obtain ⟨s1, xr⟩ := Wl.yld i H x H' q hlt y
    refine monog x _ _ _ _ (fun σ2 H2 h2 => ?_) (hs i x H H' hlt p s1 xr)
    refine ⟨h2.1, ?_⟩
    simp only [tYes, if_true]
    refine mono σ2 H2 _ _ (fun J1 H4 h4 => ?_) h2.2
    obtain ⟨p4, Xr1, W1, hj⟩ := h4
    refine ⟨fun j k H => k = n1 - j ∧ j ≤ n1 ∧ Pv i j H, ⟨n1, by simp, Nat.zero_le _, p4⟩, ?_⟩
    rintro j k H5 ⟨rfl, hj1, p5⟩
    have q5 := hS i j H5 p5
    by_cases hlt1 : j < n1
    · refine .inr ⟨W1.go j H5 q5 hlt1, Pv i (j + 1), fun H' p' => ⟨n1 - (j + 1), by omega, rfl, hlt1, p'⟩, fun x1 H6 y1 => ?_⟩
      obtain ⟨s5, xr1⟩ := W1.yld j H5 x1 H6 q5 hlt1 y1
      exact hj j x1 H5 H6 hlt1 p5 s5 xr1
    · have e : j = n1 := by omega
      subst e
      exact .inl ⟨W1.stop H5 q5, hend i H5 hlt p5⟩
  · have e : i = n := by omega
    subst e
    exact .inl ⟨Wl.stop H q, hd H p⟩
theorem put_gT' (l : List (List Nat × V)) (k : List Nat) (v : V) : ∃ l', putK (gT l) (kN k) v = gT l' ∧ ((k ∈ ks l ∧ ks l' = ks l) ∨ (k ∉ ks l ∧ ks l' = ks l ++ [k])) := by
  by_cases hk : k ∈ ks l
  · refine ⟨l.map fun p => if p.1 = k then (p.1, v) else p, ?_, .inl ⟨hk, ?_⟩⟩
    · unfold putK
      rw [if_pos (by
        obtain ⟨p, hp, e⟩ := List.mem_map.mp hk
        refine List.any_eq_true.mpr ⟨(kN p.1, p.2), List.mem_map.mpr ⟨p, hp, rfl⟩, decide_eq_true (by rw [e])⟩)]
      unfold gT
      rw [List.map_map, List.map_map]
      refine List.map_congr_left fun p hp => ?_
      show (if kN p.1 = kN k then _ else _) = _
      by_cases h : p.1 = k
      · simp [h]
      · have h2 : ¬ kN p.1 = kN k := fun z => h (kN_inj z)
        simp [h, h2]
    · show (l.map _).map _ = l.map _
      rw [List.map_map]
      refine List.map_congr_left fun p hp => ?_
      show (if p.1 = k then (p.1, v) else p).1 = p.1
      by_cases h : p.1 = k <;> simp [h]
  · exact ⟨l ++ [(k, v)], put_gT v hk, .inr ⟨hk, ks_snoc _ _ _⟩⟩
theorem sc_few_makers : FnScope ["turns", "many", "makers", "known", "turn"] ["turns", "many"] (defScope s_few_makers) := ⟨rfl, rfl, rfl, by decide +kernel, rfl, by decide +kernel, by decide +kernel⟩
theorem sc_exchanges_of : FnScope ["turns", "many", "makers", "known", "turn", "maker"] ["turns", "many"] (defScope s_exchanges_of) := ⟨rfl, rfl, rfl, by decide +kernel, rfl, by decide +kernel, by decide +kernel⟩
theorem sc_series_of : FnScope ["turns", "many", "found", "later"] ["turns", "many"] (defScope s_series_of) := ⟨rfl, rfl, rfl, by decide +kernel, rfl, by decide +kernel, by decide +kernel⟩
theorem sc_rings_in : FnScope ["turn", "found", "seen", "first", "ring", "at"] ["turn"] (defScope s_rings_in) := ⟨rfl, rfl, rfl, by decide +kernel, rfl, by decide +kernel, by decide +kernel⟩
def sp_few : Sp := fun vs H Q _ => ∃ (a : Addr) (n : Nat) (vts : List V) (ts : List (List Nat)), vs = [.ref a, .int (n : Int)] ∧ H a = some (.lst vts) ∧ TL H vts ts ∧ (∀ m ∈ ts, IsP n m) ∧ n ≤ 6 ∧ ts.length ≤ 46656 ∧
  ∀ H' b vms ms, H b = none → Same H H' → H' b = some (.lst vms) → TL H' vms ms → ms.length ≤ ts.length → (∀ m ∈ ms, m ∈ ts ∧ m ≠ still n) → (∀ t ∈ ts, OfM ms n t) → Q (.ref b) H'
def IsEx (ts : List (List Nat)) (c : List Nat) : Prop := ∃ a ∈ ts, ∃ b ∈ ts, c = exch a b
def sp_exs : Sp := fun vs H Q _ => ∃ (a : Addr) (n : Nat) (vts : List V) (ts : List (List Nat)), vs = [.ref a, .int (n : Int)] ∧ H a = some (.lst vts) ∧ TL H vts ts ∧ Grp n ts ∧ 1 ≤ n ∧ n ≤ 6 ∧
  ∀ H' b vos os, H b = none → Same H H' → H' b = some (.lst vos) → TL H' vos os → Grp n os → (∀ x ∈ os, x ∈ ts) → (∀ a ∈ ts, ∀ b ∈ ts, exch a b ∈ os) → (∀ x ∈ os, GenBy (IsEx ts) n x) → Q (.ref b) H'
section
variable {P : Program} {w : World} {K : Fr} {mg : Str → Option Value} {base : Heap} {fd : FuncData} {f : Addr}
theorem ok_few (F0 : FnP K "few_makers" s_few_makers f fd) (T : Bt mg) (F_still : Fo P w K mg base "still" ["many"] 1 sp_still) (F_generated : Fo P w K mg base "generated" ["makers", "many"] 3 sp_generated) : FnOk P w K mg base CX0 4 f fd ["turns", "many"] sp_few := by
  refine F0.ok sc_few_makers (fun vs H Q E h => ?_) (fun cdv A outer s H vs Q E hr h => ?_)
  · obtain ⟨a, n, vts, ts, rfl, _⟩ := h
    rfl
  · obtain ⟨a, n, vts, ts, rfl, ha, hts, hP, hn, hlen, q⟩ := h
    refine ⟨_, PSs.nox (pss_cons (ps_par (by rfl) sc_few_makers.nd (i := 2) (j := 3) rfl rfl (by decide) rfl rfl (pa_cons (pe_lst pa_nil) (pa_cons (pe_disp1T (pc F_still hr (by rfl) (pa_cons (pv 1) pa_nil)) (pe_tup pa_nil) (hu_of hr)) pa_nil)) (by rfl))
  (pss_cons (ps_for PassesOwn.never rfl (piL K (pv 0)) (pg_name (i := 4) sc_few_makers.nd rfl (Or.inl rfl))
  (pss_one (ps_if (pt_cmp (pc_dnotin (hu_of hr) (pv 4) (pv 3))) (pss_cons (ps_expr (pe_bm PySem.F.plainAttrs_list PySem.F.slot_list_append PySem.F.type_list_append mt_append (pv 2) (pa_cons (pv 4) pa_nil)))
  (pss_one (ps_set (i := 3) sc_few_makers.nd rfl (Or.inl rfl) (pc F_generated hr (by rfl) (pa_cons (pv 2) (pa_cons (pv 1) pa_nil)))))) pss_nil)))
  (pss_one (ps_ret (pv 2))))), ?_⟩
    -- makers, known = [], {still(many): ()}
    refine ⟨szl (Nat.zero_le _), fun q1 hq1 d hd => ?_⟩
    have s0 : Same H (upd H q1 (.lst [])) := same_upd hq1
    have hdq : d ≠ q1 := fun e => by rw [e, upd_same] at hd; cases hd
    have s1 : Same H (upd (upd H q1 (.lst [])) d (.dT [])) := s0.trans (same_upd hd)
    refine ⟨_, rfl, n, rfl, by omega, fun H1 b1 nb1 sb1 hb1 => ?_⟩
    have h1d : H1 d = some (.dT []) := sb1 _ _ upd_same
    have h1q : H1 q1 = some (.lst []) := sb1 _ _ (same_upd hd _ _ upd_same)
    refine ⟨Nat.zero_le _, fun b2 nb2 => ?_⟩
    have nd2 : d ≠ b2 := ne_of_none h1d nb2
    refine ⟨by rw [upd_ne nd2]; exact h1d, b1, kN (still n), rfl, kN_eq (same_upd nb2 _ _ hb1), ?_⟩
    generalize hH2 : upd (upd H1 b2 (.tup [])) d (.dT [(kN (still n), V.ref b2)]) = H2
    have hd2 : H2 d = some (.dT (gT [(still n, V.ref b2)])) := by rw [← hH2, upd_same]; rfl
    have hq2 : H2 q1 = some (.lst []) := by rw [← hH2, upd_ne hdq.symm]; exact same_upd nb2 _ _ h1q
    have s2 : Same H H2 := by
      rw [← hH2]
      exact ((s1.trans sb1).trans (same_upd nb2)).upd' (s0.free hd)
    refine ⟨V.ref q1, V.ref d, rfl, ?_⟩
    -- for turn in turns
    refine ⟨_, rfl, a, rfl, ⟨vts, SqL.of (s2 _ _ ha)⟩, ?_⟩
    refine for_wk (wk_lst (K := K) (SqL.of ha)) (fun i σ H' => Same H H' ∧ ∃ ms vms l d' v4, σ = [some (.ref a), some (.int (n : Int)), some (.ref q1), some (.ref d'), v4] ∧ H' q1 = some (.lst vms) ∧ TL H' vms ms ∧ H' d' = some (.dT (gT l)) ∧ ms.length ≤ i ∧
      (∀ m ∈ ms, m ∈ ts ∧ m ≠ still n) ∧ (ks l).Nodup ∧ still n ∈ ks l ∧ (∀ p ∈ ks l, OfM ms n p) ∧ ∀ (j : Nat) (t : List Nat), j < i → ts[j]? = some t → OfM ms n t)
      ⟨s2, [], [], _, d, none, rfl, hq2, TL.nil, hd2, Nat.zero_le _, fun m hm => (List.not_mem_nil hm).elim, by simp, List.mem_singleton.mpr rfl, fun p hp => by rw [List.mem_singleton.mp hp]; exact ofM_still, fun j t hj => absurd hj (Nat.not_lt_zero _)⟩ (fun i σ H h => h.1) ?_ ?_
    · rintro i x σ H4 H5 hi ⟨sm, ms, vms, l, d', v4, rfl, h4q, htl, h4d, hml, hms, hnd, hst, hof, hcl⟩ s45 hx
      obtain ⟨t, ht, at_, rfl, hat⟩ := hts.2 i x hx
      have hti : i < ts.length := (List.getElem?_eq_some_iff.mp ht).1
      have hPt : IsP n t := hP t (List.mem_of_getElem? ht)
      have sm5 := sm.trans s45
      have hat5 := sm5 _ _ hat
      have h5q := s45 _ _ h4q
      have h5d := s45 _ _ h4d
      have htl5 := htl.same s45
      refine ⟨_, rfl, _, rfl, d', _, rfl, DGet.t h5d (kN_eq hat5), _, rfl, ?_⟩
      refine ite2 (fun hnew => ?_) (fun hold => ?_)
      · have hnk : t ∉ ks l := fun hin => by
          obtain ⟨p', hp', e'⟩ := List.mem_map.mp hin
          have e'' : (t, p'.2) ∈ l := by rw [← e']; exact hp'
          rw [val_gT_some hnd e''] at hnew
          cases hnew
        refine ⟨.ref q1, rfl, .inl ⟨rfl, _, SqL.of h5q⟩, _, rfl, q1, vms, .ref at_, rfl, rfl, h5q, by rw [htl5.1]; exact szl' (by omega), ?_⟩
        have t56 : Tame H5 (upd H5 q1 (.lst (vms ++ [V.ref at_]))) := Tame.upd (Soft.lst h5q)
        have htl6 : TL (upd H5 q1 (.lst (vms ++ [V.ref at_]))) (vms ++ [V.ref at_]) (ms ++ [t]) := (htl5.tame t56).snoc ⟨at_, rfl, t56.1 _ _ hat5⟩
        refine ⟨_, rfl, _, rfl, q1, n, _, ms ++ [t], rfl, upd_same, htl6, fun m hm => ?_, hn, fun H7 d7 l7 nd7 s67 h7d hG => ?_⟩
        · rcases List.mem_append.mp hm with h | h
          · exact hP m (hms m h).1
          · rw [List.mem_singleton.mp h]; exact hPt
        · have s7 : Same H H7 := ((sm5.upd' hq1)).trans s67
          refine ⟨s7, ms ++ [t], _, l7, d7, _, rfl, s67 _ _ upd_same, htl6.same s67, h7d, by rw [List.length_append]; show ms.length + 1 ≤ i + 1; omega, fun m hm => ?_, hG.nd, hG.st, fun p hp => ?_, fun j t' hj ht' => ?_⟩
          · rcases List.mem_append.mp hm with h | h
            · exact hms m h
            · rw [List.mem_singleton.mp h]
              exact ⟨List.mem_of_getElem? ht, fun e => hnk (by rw [e]; exact hst)⟩
          · obtain ⟨p', hp', e'⟩ := List.mem_map.mp hp
            obtain ⟨_, w', _, _, h3, h4⟩ := hG.ok p' hp'
            exact ⟨w', h3, by rw [h4, e']⟩
          · rcases Nat.lt_or_ge j i with h | h
            · exact (hcl j t' h ht').more t
            · have ej : j = i := by omega
              subst ej
              rw [ht] at ht'
              cases ht'
              exact OfM.last hPt.1
      · have hin : t ∈ ks l := by
          by_cases hin : t ∈ ks l
          · exact hin
          · exact absurd (by rw [val_gT_none hin]; rfl) hold
        refine ⟨sm5, ms, vms, l, d', _, rfl, h5q, htl5, h5d, Nat.le_succ_of_le hml, hms, hnd, hst, hof, fun j t' hj ht' => ?_⟩
        rcases Nat.lt_or_ge j i with h | h
        · exact hcl j t' h ht'
        · have ej : j = i := by omega
          subst ej
          rw [ht] at ht'
          cases ht'
          exact hof _ hin
    · rintro σ H4 ⟨sm, ms, vms, l, d', v4, rfl, h4q, htl, h4d, hml, hms, hnd, hst, hof, hcl⟩
      rw [hts.1] at hml hcl
      exact ⟨_, rfl, q H4 q1 vms ms hq1 sm h4q htl hml hms fun t ht => by
        obtain ⟨j, hj, e⟩ := List.getElem_of_mem ht
        exact hcl j t hj (by rw [List.getElem?_eq_getElem hj, e])⟩
theorem ok_exs (F0 : FnP K "exchanges_of" s_exchanges_of f fd) (T : Bt mg) (F_exchange : Fo P w K mg base "exchange" ["one", "other"] 2 sp_exchange) (F_generated : Fo P w K mg base "generated" ["makers", "many"] 3 sp_generated) (F_few_makers : Fo P w K mg base "few_makers" ["turns", "many"] 4 sp_few) : FnOk P w K mg base CX0 5 f fd ["turns", "many"] sp_exs := by
  refine F0.ok sc_exchanges_of (fun vs H Q E h => ?_) (fun cdv A outer s H vs Q E hr h => ?_)
  · obtain ⟨a, n, vts, ts, rfl, _⟩ := h
    rfl
  · obtain ⟨a, n, vts, ts, rfl, ha, hts, hG, h1, hn, q⟩ := h
    have hlen : ts.length ≤ 46656 := turns_few hn hG.nd hG.ok
    refine ⟨_, PSs.nox (pss_cons (ps_set (i := 2) sc_exchanges_of.nd rfl (Or.inr rfl) (pc F_few_makers hr (by rfl) (pa_cons (pv 0) (pa_cons (pv 1) pa_nil))))
  (pss_cons (ps_setDc2T (i := 3) (own := [("turn", 4), ("maker", 5)]) (vs1 := [5]) (g := gName 4) (g1 := gName 5) (tt := tYes) (tt1 := tYes) (hu_of hr) rfl sc_exchanges_of.nd rfl rfl (sw_trueD rfl rfl rfl (by decide +kernel)) (piL K (pv 0))
  (blkOk_by (N := ["turns", "many", "makers", "known", "turn", "maker"]) (sc := defScope s_exchanges_of) (by decide +kernel)) (by decide) (fun _ _ _ _ _ => pg_name (i := 4) sc_exchanges_of.nd rfl (Or.inl rfl)) (fun _ _ _ _ _ => pts_nil) (fun _ _ _ _ _ => (piL K (pv 2))) (fun _ _ _ _ _ => pg_name (i := 5) sc_exchanges_of.nd rfl (Or.inl rfl)) (fun _ _ _ _ _ => pts_nil) (fun _ _ _ _ _ => (pc F_exchange hr (by rfl) (pa_cons (pv 4) (pa_cons (pv 5) pa_nil)))) (fun _ _ _ _ _ => pe_bl))
  (pss_one (ps_ret (pe_callB (cr_sortedTD rfl hr.units) (by rfl) T.sorted PyProof.Rows.Boot.«sorted» (pa_cons (pc F_generated hr (by rfl) (pa_cons (pe_callB (cr_sortedTD rfl hr.units) (by rfl) T.sorted PyProof.Rows.Boot.«sorted» (pa_cons (pv 3) pa_nil)) (pa_cons (pv 1) pa_nil))) pa_nil)))))), ?_⟩
    -- makers = few_makers(turns, many)
    refine ⟨_, rfl, _, rfl, a, n, vts, ts, rfl, ha, hts, hG.ok, hn, hlen, fun H1 b vms ms nb sb hb htl hml hms hof => ?_⟩
    -- known = {..}
    refine ⟨_, rfl, a, rfl, ⟨vts, SqL.of (sb _ _ ha)⟩, fun D hD => ?_⟩
    refine dc2_wk (wk_lst (K := K) (SqL.of (sb _ _ ha))) vms.length (fun i j H' => Same H1 H' ∧ ∃ l, H' D = some (.dT (gT l)) ∧ (ks l).Nodup ∧ (∀ c ∈ ks l, ∃ t ∈ ts, ∃ m ∈ ms, c = exch t m) ∧
      ∀ (i' j' : Nat) (t m : List Nat), (i' < i ∨ (i' = i ∧ j' < j)) → ts[i']? = some t → ms[j']? = some m → exch t m ∈ ks l)
      ⟨same_upd hD, [], upd_same, List.nodup_nil, fun c hc => (List.not_mem_nil hc).elim, fun i' j' t m hij => by omega⟩ (fun i j H h => h.1) ?_ ?_ ?_ (fun σ2 H R R' h q => ?_) (fun x σ2 H R R' h q => h _ _ q)
    · rintro i H' hi ⟨sm, l, h1, h2, h3, h4⟩
      refine ⟨sm, l, h1, h2, h3, fun i' j' t m hij ht hm => h4 i' j' t m ?_ ht hm⟩
      have : j' < vms.length := by rw [htl.1]; exact (List.getElem?_eq_some_iff.mp hm).1
      omega
    · rintro i x H2 H3 hi hp s23 hx
      obtain ⟨t, ht, at_, rfl, hat⟩ := hts.2 i x hx
      have hPt := hG.ok t (List.mem_of_getElem? ht)
      refine ⟨rfl, ?_⟩
      have sm3 : Same H1 H3 := hp.1.trans s23
      refine ⟨_, rfl, b, rfl, ⟨vms, SqL.of (sm3 _ _ hb)⟩, ?_, _, wk_lst (K := K) (SqL.of hb), ?_⟩
      · obtain ⟨_, l, h1, h2, h3, h4⟩ := hp
        exact ⟨sm3, l, s23 _ _ h1, h2, h3, h4⟩
      · rintro j x1 H4 H5 hj ⟨sm, l, h1, h2, h3, h4⟩ s45 hx1
        obtain ⟨m, hm, am, rfl, ham⟩ := htl.2 j x1 hx1
        have hPm := hG.ok m (hms m (List.mem_of_getElem? hm)).1
        have sm5 : Same H1 H5 := sm.trans s45
        refine ⟨rfl, ?_⟩
        refine ⟨_, rfl, _, rfl, at_, am, n, t, m, rfl, (sb.trans sm5) _ _ hat, sm5 _ _ ham, hPt, hPm, by omega, fun H6 p6 n6 s56 h6 => ?_⟩
        have h6D : H6 D = some (.dT (gT l)) := s56 _ _ (s45 _ _ h1)
        have hfew : l.length ≤ 46656 := by
          have := turns_few (l := ks l) hn h2 fun c hc => by
            obtain ⟨t', ht', m', hm', rfl⟩ := h3 c hc
            exact (hG.ok t' ht').exch (hG.ok m' (hms m' hm').1)
          rwa [ks_len] at this
        obtain ⟨l', hl', hk⟩ := put_gT' l (exch t m) (.bl true)
        refine ⟨gT l, kN (exch t m), p6, rfl, kN_eq h6, h6D, by rw [gT_len]; exact szl' (by omega), ?_⟩
        rw [hl']
        refine ⟨(sm5.trans s56).upd' hD, l', upd_same, ?_, ?_, ?_⟩
        · rcases hk with ⟨_, e⟩ | ⟨hk, e⟩
          · rw [e]; exact h2
          · rw [e]; exact nd_snoc h2 hk
        · intro c hc
          have hc' : c ∈ ks l ∨ c = exch t m := by
            rcases hk with ⟨_, e⟩ | ⟨_, e⟩
            · rw [e] at hc; exact .inl hc
            · rw [e] at hc
              rcases List.mem_append.mp hc with h | h
              · exact .inl h
              · exact .inr (List.mem_singleton.mp h)
          rcases hc' with h | h
          · exact h3 c h
          · exact ⟨t, List.mem_of_getElem? ht, m, List.mem_of_getElem? hm, h⟩
        · have sub : ∀ c ∈ ks l, c ∈ ks l' := fun c hc => by
            rcases hk with ⟨_, e⟩ | ⟨_, e⟩
            · rw [e]; exact hc
            · rw [e]; exact List.mem_append_left _ hc
          have self : exch t m ∈ ks l' := by
            rcases hk with ⟨hk, e⟩ | ⟨_, e⟩
            · rw [e]; exact hk
            · rw [e]; exact List.mem_append_right _ (List.mem_singleton.mpr rfl)
          intro i' j' t' m' hij ht' hm'
          by_cases hh : i' < i ∨ (i' = i ∧ j' < j)
          · exact sub _ (h4 i' j' t' m' hh ht' hm')
          · have e1 : i' = i := by omega
            have e2 : j' = j := by omega
            subst e1 e2
            rw [ht] at ht'
            rw [hm] at hm'
            cases ht'
            cases hm'
            exact self
    · rintro H2 ⟨sm, l, hD2, hnd, hc, hall⟩
      have hallm : ∀ t ∈ ts, ∀ m ∈ ms, exch t m ∈ ks l := fun t ht m hm => by
        obtain ⟨i', hi', e1⟩ := List.getElem_of_mem ht
        obtain ⟨j', hj', e2⟩ := List.getElem_of_mem hm
        exact hall i' j' t m (.inl (by rw [hts.1]; exact hi')) (by rw [List.getElem?_eq_getElem hi', e1]) (by rw [List.getElem?_eq_getElem hj', e2])
      have hPk : ∀ c ∈ ks l, IsP n c := fun c hcc => by
        obtain ⟨t', ht', m', hm', rfl⟩ := hc c hcc
        exact (hG.ok t' ht').exch (hG.ok m' (hms m' hm').1)
      have hne : ∀ r : List Nat, IsP n r → r ≠ [] := fun r hr e => by
        rw [e] at hr
        have := hr.1
        simp at this
        omega
      -- sorted(known)
      refine ⟨_, rfl, D, l, rfl, hD2, fun r hr => hne _ (hPk _ (List.mem_map.mpr ⟨r, hr, rfl⟩)), fun p ys rows np hperm hys => ?_⟩
      -- generated(.., many)
      have sm3 : Same H1 (upd H2 p (.lst ys)) := sm.trans (same_upd np)
      have hD1 : H D = none := sb.free hD
      refine ⟨_, rfl, p, n, ys, rows, rfl, upd_same, hys.same (same_upd np), fun c hcc => hPk c (hperm.mem_iff.mp hcc), hn, fun H4 d4 l4 nd4 s4 h4 hGD => ?_⟩
      have hgrp : Grp n (ks l4) := grp_of (ms := rows) hGD.nd hGD.st (fun c hcc => hPk c (hperm.mem_iff.mp hcc)) (fun x hx => by
        obtain ⟨p', hp', rfl⟩ := List.mem_map.mp hx
        obtain ⟨_, w', _, _, h3, h4⟩ := hGD.ok p' hp'
        exact ⟨w', h3, h4⟩) hGD.cl
      have hrow : ∀ m ∈ rows, m ∈ ks l4 := fun m hm => by
        have := hGD.cl _ hGD.st m hm
        rwa [still_mul (hPk m (hperm.mem_iff.mp hm)).1] at this
      -- sorted(..)
      refine ⟨d4, l4, rfl, h4, fun r hr => hne _ (hgrp.ok _ (List.mem_map.mpr ⟨r, hr, rfl⟩)), fun p5 ys5 os np5 hperm5 hys5 => ?_⟩
      have hos : Grp n os := ⟨hperm5.nodup_iff.mpr hgrp.nd, hperm5.mem_iff.mpr hgrp.st, fun t ht => hgrp.ok t (hperm5.mem_iff.mp ht), fun x hx y hy => hperm5.mem_iff.mpr (hgrp.cl x (hperm5.mem_iff.mp hx) y (hperm5.mem_iff.mp hy))⟩
      have hgen : ∀ x ∈ os, GenBy (IsEx ts) n x := fun x hx => by
        obtain ⟨p', hp', rfl⟩ := List.mem_map.mp (hperm5.mem_iff.mp hx)
        obtain ⟨_, w', _, _, h3, h4⟩ := hGD.ok p' hp'
        refine ⟨rows, fun m hm => ?_, w', h3, h4⟩
        obtain ⟨t', ht', m', hm', e⟩ := hc m (hperm.mem_iff.mp hm)
        exact ⟨t', ht', m', (hms m' hm').1, e⟩
      refine q _ p5 ys5 os ?_ ?_ upd_same (hys5.same (same_upd np5)) hos (fun x hx => (hgen x hx).mem hG fun c ⟨a', ha', b', hb', e⟩ => by rw [e]; exact hG.exch ha' hb')
        (fun a' ha' b' hb' => hperm5.mem_iff.mpr (exch_all hG hgrp (fun m hm => (hms m hm).1) hof (fun t ht m hm => hrow _ (hperm.mem_iff.mpr (hallm t ht m hm))) a' ha' b' hb')) hgen
      · exact (sb.trans (sm3.trans s4)).free np5
      · exact (sb.trans (sm3.trans s4)).trans (same_upd np5)
    · obtain ⟨v, e1, b', e2, e3, e4⟩ := q
      exact ⟨v, e1, b', e2, e3, h _ _ e4⟩
end
end Kn
/-! G4 -/
set_option maxHeartbeats 1000000
namespace Kn
open PySem PySem.Spec PyProof.Rows L2
/-- a set of turns, each an exchange of two of them -/
def Core (A : List (List Nat)) : Prop := ∀ a ∈ A, ∃ b ∈ A, ∃ c ∈ A, a = exch b c
def sp_series : Sp := fun vs H Q _ => ∃ (a : Addr) (n : Nat) (vts : List V) (ts : List (List Nat)), vs = [.ref a, .int (n : Int)] ∧ H a = some (.lst vts) ∧ TL H vts ts ∧ Grp n ts ∧ 1 ≤ n ∧ n ≤ 6 ∧
  ∀ H' (r b gl : Addr) (vgs vls : List V) (gs : List (List Nat)) (e : Bool), H r = none → Same H H' → H' r = some (.tup [.ref b, .bl e]) → H' b = some (.lst (vgs ++ [.ref gl])) → H' gl = some (.lst vls) → TL H' vls gs → Grp n gs → (∀ x ∈ gs, x ∈ ts) →
    (e = false → (∀ x ∈ gs, GenBy (IsEx gs) n x) ∧ 1 < gs.length) → (e = true → ∀ A, (∀ a ∈ A, a ∈ ts) → Core A → ∀ a ∈ A, a = still n) → Q (.ref r) H'
section
variable {P : Program} {w : World} {K : Fr} {mg : Str → Option Value} {base : Heap} {fd : FuncData} {f : Addr}
theorem ok_series (F0 : FnP K "series_of" s_series_of f fd) (T : Bt mg) (F_exchanges_of : Fo P w K mg base "exchanges_of" ["turns", "many"] 5 sp_exs) : FnOk P w K mg base CX0 6 f fd ["turns", "many"] sp_series := by
  refine F0.ok sc_series_of (fun vs H Q E h => ?_) (fun cdv A outer s H vs Q E hr h => ?_)
  · obtain ⟨a, n, vts, ts, rfl, _⟩ := h
    rfl
  · obtain ⟨a, n, vts, ts, rfl, ha, hts, hG, h1, hn, q⟩ := h
    refine ⟨_, PSs.nox (pss_cons (ps_set (i := 2) sc_series_of.nd rfl (Or.inl rfl) (pe_lst (pa_cons (pe_callB (cr_sortedTL hr.units) (by rfl) T.sorted PyProof.Rows.Boot.«sorted» (pa_cons (pv 0) pa_nil)) pa_nil)))
  (pss_cons (ps_while PassesOwn.never (pt_cmpR op_gt (pe_callB (callLenSeq K) (by rfl) T.len PySem.boot_len (pa_cons (pe_ix (ixL K) (pv 2) (pe_un un_neg pe_int) (fun _ _ => rfl)) pa_nil)) pe_int (nomark _)) (pss_cons (ps_set (i := 3) sc_series_of.nd rfl (Or.inl rfl) (pc F_exchanges_of hr (by rfl) (pa_cons (pe_ix (ixL K) (pv 2) (pe_un un_neg pe_int) (fun _ _ => rfl)) (pa_cons (pv 1) pa_nil))))
  (pss_cons (ps_if (pt_cmpR op_eq (pe_callB (callLenSeq K) (by rfl) T.len PySem.boot_len (pa_cons (pv 3) pa_nil)) (pe_callB (callLenSeq K) (by rfl) T.len PySem.boot_len (pa_cons (pe_ix (ixL K) (pv 2) (pe_un un_neg pe_int) (fun _ _ => rfl)) pa_nil)) (nomark _)) (pss_cons (ps_expr (pe_bm PySem.F.plainAttrs_list PySem.F.slot_list_append PySem.F.type_list_append mt_append (pv 2) (pa_cons (pv 3) pa_nil)))
  (pss_one (ps_ret (pe_tup (pa_cons (pv 2) (pa_cons pe_bl pa_nil)))))) pss_nil)
  (pss_one (ps_expr (pe_bm PySem.F.plainAttrs_list PySem.F.slot_list_append PySem.F.type_list_append mt_append (pv 2) (pa_cons (pv 3) pa_nil)))))))
  (pss_one (ps_ret (pe_tup (pa_cons (pv 2) (pa_cons pe_bl pa_nil))))))), ?_⟩
    have hne : ∀ r : List Nat, IsP n r → r ≠ [] := fun r hr e => by
      rw [e] at hr
      have := hr.1
      simp at this
      omega
    have hlen : ts.length ≤ 46656 := turns_few hn hG.nd hG.ok
    -- found = [sorted(turns)]
    refine ⟨_, rfl, a, vts, ts, rfl, ha, hts, fun r hr => hne r (hG.ok r hr), fun p ys rows np hperm hys => ?_⟩
    refine ⟨szl (by show 1 ≤ 1000000; decide), fun q1 nq1 => ?_⟩
    have hrows : Grp n rows := ⟨hperm.nodup_iff.mpr hG.nd, hperm.mem_iff.mpr hG.st, fun t ht => hG.ok t (hperm.mem_iff.mp ht), fun x hx y hy => hperm.mem_iff.mpr (hG.cl x (hperm.mem_iff.mp hx) y (hperm.mem_iff.mp hy))⟩
    have s1 : Same H (upd H p (.lst ys)) := same_upd np
    have hq1H : H q1 = none := s1.free nq1
    -- while
    refine ⟨fun m σ H' => ∃ vgs gl vls gs v3, σ = [some (.ref a), some (.int (n : Int)), some (.ref q1), v3] ∧ m = gs.length ∧ Same H H' ∧ H' q1 = some (.lst (vgs ++ [.ref gl])) ∧ vgs.length + gs.length ≤ ts.length ∧ H' gl = some (.lst vls) ∧ TL H' vls gs ∧ Grp n gs ∧ (∀ x ∈ gs, x ∈ ts) ∧ (∀ A, (∀ a ∈ A, a ∈ ts) → Core A → ∀ a ∈ A, a ∈ gs),
      ⟨rows.length, [], p, ys, rows, none, rfl, rfl, s1.trans (same_upd nq1), upd_same, by show 0 + rows.length ≤ _; rw [hperm.length_eq]; omega, same_upd nq1 _ _ upd_same, (hys.same (same_upd np)).same (same_upd nq1), hrows, fun x hx => hperm.mem_iff.mp hx, fun A hA _ a ha => hperm.mem_iff.mpr (hA a ha)⟩, ?_⟩
    rintro m σ H4 ⟨vgs, gl, vls, gs, v3, rfl, rfl, sm, h4q, hz, h4g, htl, hGg, hsub, hcore⟩
    refine ⟨_, rfl, 1, rfl, q1, _, -1, .ref gl, rfl, rfl, SqL.of h4q, atI_last _ _, gl, vls, rfl, .inl (SqL.of h4g), _, _, rfl, rfl, _, rfl, ?_⟩
    refine ite2 (fun hlt => ?_) (fun hge => ?_)
    · have hlt : 1 < gs.length := by
        have := of_decide_eq_true hlt
        rw [htl.1] at this
        omega
      refine ⟨fun σ' H' => ∃ m', m' < gs.length ∧ ∃ vgs gl vls gs v3, σ' = [some (.ref a), some (.int (n : Int)), some (.ref q1), v3] ∧ m' = gs.length ∧ Same H H' ∧ H' q1 = some (.lst (vgs ++ [.ref gl])) ∧ vgs.length + gs.length ≤ ts.length ∧ H' gl = some (.lst vls) ∧ TL H' vls gs ∧ Grp n gs ∧ (∀ x ∈ gs, x ∈ ts) ∧ (∀ A, (∀ a ∈ A, a ∈ ts) → Core A → ∀ a ∈ A, a ∈ gs), fun σ' H' h => h, ?_⟩
      -- later = exchanges_of(found[-1], many)
      refine ⟨_, rfl, 1, rfl, q1, _, -1, .ref gl, rfl, rfl, SqL.of h4q, atI_last _ _, _, rfl, gl, n, vls, gs, rfl, h4g, htl, hGg, h1, hn, fun H5 b vos os nb s45 h5b hto hGo hos hex hgen => ?_⟩
      have h5q := s45 _ _ h4q
      have h5g := s45 _ _ h4g
      have hle : os.length ≤ gs.length := len_sub hGo.nd hos
      refine ⟨_, rfl, b, vos, rfl, .inl (SqL.of h5b), _, rfl, 1, rfl, q1, _, -1, .ref gl, rfl, rfl, SqL.of h5q, atI_last _ _, gl, vls, rfl, .inl (SqL.of h5g), ?_⟩
      refine ⟨rfl, _, rfl, ?_⟩
      have hb1 : H b = none := sm.free nb
      have t56 : Tame H5 (upd H5 q1 (.lst (vgs ++ [.ref gl] ++ [.ref b]))) := Tame.upd (Soft.lst h5q)
      have hbq : b ≠ q1 := fun e => by rw [e, h4q] at nb; cases nb
      refine ite2 (fun heq => ?_) (fun hneq => ?_)
      · have heq : os.length = gs.length := by
          have e := of_decide_eq_true heq
          injection e with e
          rw [hto.1, htl.1] at e
          omega
        have hback : ∀ x ∈ gs, x ∈ os := all_met hGo.nd hos (by omega)
        refine ⟨.ref q1, rfl, .inl ⟨rfl, _, SqL.of h5q⟩, _, rfl, q1, _, .ref b, rfl, rfl, h5q, szl' (by rw [List.length_append]; show vgs.length + 1 ≤ _; omega), ?_⟩
        refine ⟨_, rfl, szl (by show 2 ≤ 1000000; decide), fun r nr => ?_⟩
        have sF : Same H (upd (upd H5 q1 (.lst (vgs ++ [.ref gl] ++ [.ref b]))) r (.tup [.ref q1, .bl false])) := ((sm.trans s45).upd' hq1H).trans (same_upd nr)
        refine q _ r q1 b (vgs ++ [.ref gl]) vos os false (((sm.trans s45).upd' hq1H).free nr) sF upd_same (same_upd nr _ _ upd_same) (same_upd nr _ _ (by rw [upd_ne hbq]; exact h5b)) ((hto.tame t56).same (same_upd nr)) hGo (fun x hx => hsub x (hos x hx)) (fun _ => ⟨fun x hx => ?_, by omega⟩) (fun z => nomatch z)
        obtain ⟨ms, h1, h2⟩ := hgen x hx
        refine ⟨ms, fun m hm => ?_, h2⟩
        obtain ⟨a', ha', b', hb', e⟩ := h1 m hm
        exact ⟨a', hback a' ha', b', hback b' hb', e⟩
      · have hneq : os.length ≠ gs.length := fun e => hneq (decide_eq_true (by rw [hto.1, htl.1, e]))
        refine ⟨.ref q1, rfl, .inl ⟨rfl, _, SqL.of h5q⟩, _, rfl, q1, _, .ref b, rfl, rfl, h5q, szl' (by rw [List.length_append]; show vgs.length + 1 ≤ _; omega), ?_⟩
        refine ⟨os.length, by omega, vgs ++ [.ref gl], b, vos, os, _, rfl, rfl, (sm.trans s45).upd' hq1H, upd_same, by rw [List.length_append]; show vgs.length + 1 + os.length ≤ _; omega, by rw [upd_ne hbq]; exact h5b, hto.tame t56, hGo, fun x hx => hsub x (hos x hx), fun A hA hc a' ha' => ?_⟩
        obtain ⟨b', hb', c', hc', e⟩ := hc a' ha'
        rw [e]
        exact hex _ (hcore A hA hc _ hb') _ (hcore A hA hc _ hc')
    · have hle : gs.length ≤ 1 := by
        rcases Nat.lt_or_ge 1 gs.length with h | h
        · exact absurd (decide_eq_true (by rw [htl.1]; omega)) hge
        · exact h
      refine ⟨_, rfl, szl (by show 2 ≤ 1000000; decide), fun r nr => ?_⟩
      refine q _ r q1 gl vgs vls gs true (sm.free nr) (sm.trans (same_upd nr)) upd_same (same_upd nr _ _ h4q) (same_upd nr _ _ h4g) (htl.same (same_upd nr)) hGg hsub (fun z => nomatch z) (fun _ A hA hc a' ha' => ?_)
      have h1 := hcore A hA hc a' ha'
      have h2 := hGg.st
      match gs, hle, h1, h2 with
      | [x], _, h1, h2 => rw [List.mem_singleton.mp h1, List.mem_singleton.mp h2]
end
end Kn
/-! G5 -/
set_option maxHeartbeats 1000000
namespace Kn
open PySem PySem.Spec PyProof.Rows L2
/-- the heap that tracks one thing -/
def only (b : Addr) (o : HO) : Hp := fun x => if x = b then some o else none
theorem only_same {b : Addr} {o : HO} {H : Hp} (h : H b = some o) : Same (only b o) H := fun x u e => by
  unfold only at e
  by_cases hx : x = b
  · rw [if_pos hx] at e
    cases e
    rw [hx]
    exact h
  · rw [if_neg hx] at e
    cases e
theorem only_at (b : Addr) (o : HO) : only b o b = some o := if_pos rfl
theorem last_get {α : Type} {l : List α} {x : α} : (l ++ [x])[(l ++ [x]).length - 1]? = some x := by
  rw [List.length_append]
  show (l ++ [x])[l.length + 1 - 1]? = some x
  rw [Nat.add_sub_cancel, List.getElem?_append_right (Nat.le_refl _), Nat.sub_self]
  rfl
theorem split_last {α : Type} {l : List α} (h : 0 < l.length) : ∃ m x, l = m ++ [x] :=
  ⟨l.dropLast, l.getLast (fun e => by rw [e] at h; cases h), (List.dropLast_concat_getLast _).symm⟩
/-- the chain of a turn from a place on -/
structure Chain (n : Nat) (p r : List Nat) (i : Nat) : Prop where
  nd : r.Nodup
  lt : ∀ x ∈ r, x < n
  hd : r[0]? = some i
  next : ∀ j x y, r[j]? = some x → r[j + 1]? = some y → p[x]? = some y
theorem Chain.few {n : Nat} {p r : List Nat} {i : Nat} (c : Chain n p r i) : r.length ≤ n := by
  have := len_sub (m := List.range n) c.nd fun x hx => List.mem_range.mpr (c.lt x hx)
  rwa [List.length_range] at this
theorem Chain.pos {n : Nat} {p r : List Nat} {i : Nat} (c : Chain n p r i) : 0 < r.length := (List.getElem?_eq_some_iff.mp c.hd).1
theorem Chain.more {n : Nat} {p m : List Nat} {i x : Nat} (hP : IsP n p) (c : Chain n p (m ++ [x]) i) (hne : p.getD x 0 ≠ i) : Chain n p (m ++ [x] ++ [p.getD x 0]) i := by
  have hx : x < n := c.lt x (List.mem_append_right _ (List.mem_singleton.mpr rfl))
  have hlast : (m ++ [x])[m.length]? = some x := by rw [List.getElem?_append_right (Nat.le_refl _), Nat.sub_self]; rfl
  have hnew : p.getD x 0 ∉ m ++ [x] := fun hm => by
    obtain ⟨j, hj, e⟩ := List.getElem_of_mem hm
    have ej : (m ++ [x])[j]? = some (p.getD x 0) := by rw [List.getElem?_eq_getElem hj, e]
    cases j with
    | zero =>
      rw [c.hd] at ej
      exact hne (Option.some.inj ej).symm
    | succ j =>
      have hj' : j < (m ++ [x]).length := by omega
      have h1 := c.next j _ _ (List.getElem?_eq_getElem hj') ej
      have hlt := c.lt _ (List.getElem_mem hj')
      have h2 : (m ++ [x])[j] = x := nodup_get_inj hP.2.1 h1 (hP.get hx)
      have h3 : j = m.length := nodup_get_inj c.nd (by rw [List.getElem?_eq_getElem hj', h2]) hlast
      rw [List.length_append] at hj
      simp at hj
      omega
  refine ⟨nd_snoc c.nd hnew, fun y hy => ?_, ?_, fun j a b ha hb => ?_⟩
  · rcases List.mem_append.mp hy with h | h
    · exact c.lt y h
    · rw [List.mem_singleton.mp h]; exact hP.lt hx
  · rw [List.getElem?_append_left c.pos]
    exact c.hd
  · rcases snoc_at hb with ⟨h1, hb'⟩ | ⟨h1, rfl⟩
    · rw [List.getElem?_append_left (by omega)] at ha
      exact c.next j a b ha hb'
    · have : j = m.length := by
        rw [List.length_append] at h1
        simp at h1
        omega
      subst this
      rw [List.getElem?_append_left (by rw [List.length_append]; simp), hlast] at ha
      cases ha
      exact hP.get hx
/-- a ring of a turn: each led on to the next, the last to the first -/
structure RingOf (n : Nat) (p r : List Nat) : Prop where
  nd : r.Nodup
  lt : ∀ x ∈ r, x < n
  pos : 0 < r.length
  next : ∀ i x y, r[i]? = some x → r[i + 1]? = some y → p[x]? = some y
  last : ∀ x y, r[r.length - 1]? = some x → r[0]? = some y → p[x]? = some y
def sp_rings : Sp := fun vs H Q _ => ∃ (a : Addr) (n : Nat) (p : List Nat), vs = [.ref a] ∧ H a = some (.tup (tI p)) ∧ IsP n p ∧ n ≤ 6 ∧
  ∀ H' q vrs, H q = none → Same H H' → H' q = some (.lst vrs) → (∀ v ∈ vrs, ∃ b r, v = .ref b ∧ H' b = some (.lst (tI r)) ∧ RingOf n p r) → Q (.ref q) H'
section
variable {P : Program} {w : World} {K : Fr} {mg : Str → Option Value} {base : Heap} {fd : FuncData} {f : Addr}
theorem ok_rings (F0 : FnP K "rings_in" s_rings_in f fd) (T : Bt mg) : FnOk P w K mg base CX0 1 f fd ["turn"] sp_rings := by
  refine F0.ok sc_rings_in (fun vs H Q E h => ?_) (fun cdv A outer s H vs Q E hr h => ?_)
  · obtain ⟨a, n, p, rfl, _⟩ := h
    rfl
  · obtain ⟨a, n, p, rfl, ha, hP, hn, q⟩ := h
    refine ⟨_, PSs.nox (pss_cons (ps_par (by rfl) sc_rings_in.nd (i := 1) (j := 2) rfl rfl (by decide) rfl rfl (pa_cons (pe_lst pa_nil) (pa_cons pe_dnewK pa_nil)) (by rfl))
  (pss_cons (ps_for PassesOwn.never rfl (pi_range1 (by rfl) T.range (pa_cons (pe_callB (callLenSeq K) (by rfl) T.len PySem.boot_len (pa_cons (pv 0) pa_nil)) pa_nil)) (pg_name (i := 3) sc_rings_in.nd rfl (Or.inl rfl))
  (pss_one (ps_if (pt_cmp (pc_dnotin (hu_of hr) (pv 3) (pv 2))) (pss_cons (ps_set (i := 4) sc_rings_in.nd rfl (Or.inl rfl) (pe_lst (pa_cons (pv 3) pa_nil)))
  (pss_cons (ps_while PassesOwn.never (pt_cmpR op_ne (pe_ix (ixT K) (pv 0) (pe_ix (ixL K) (pv 4) (pe_un un_neg pe_int) (fun _ _ => rfl)) (fun _ _ => rfl)) (pv 3) (nomark _)) (pss_one (ps_expr (pe_bm PySem.F.plainAttrs_list PySem.F.slot_list_append PySem.F.type_list_append mt_append (pv 4) (pa_cons (pe_ix (ixT K) (pv 0) (pe_ix (ixL K) (pv 4) (pe_un un_neg pe_int) (fun _ _ => rfl)) (fun _ _ => rfl)) pa_nil)))))
  (pss_cons (ps_for PassesOwn.never rfl (piL K (pv 4)) (pg_name (i := 5) sc_rings_in.nd rfl (Or.inl rfl))
  (pss_one (ps_dput (hu_of hr) (pv 2) (pv 5) pe_bl rfl)))
  (pss_one (ps_expr (pe_bm PySem.F.plainAttrs_list PySem.F.slot_list_append PySem.F.type_list_append mt_append (pv 1) (pa_cons (pv 4) pa_nil))))))) pss_nil)))
  (pss_one (ps_ret (pv 1))))), ?_⟩
    -- found, seen = [], {}
    refine ⟨szl (Nat.zero_le _), fun q1 hq1 d hd => ?_⟩
    have hdq : d ≠ q1 := fun e => by rw [e, upd_same] at hd; cases hd
    have s0 : Same H (upd (upd H q1 (.lst [])) d (.dK [])) := (same_upd hq1).trans (same_upd hd)
    have hdH : H d = none := (same_upd hq1).free hd
    refine ⟨_, _, rfl, ?_⟩
    -- for first in range(len(turn))
    refine ⟨_, rfl, a, tI p, rfl, .inr (SqT.of (s0 _ _ ha)), (tI p).length, rfl, by omega, by rw [tI_len, hP.1]; omega, ?_⟩
    rw [tI_len, hP.1]
    refine for_wk (H0 := H) wk_rng (fun i σ H' => Same H H' ∧ ∃ vrs kvs v3 v4 v5, σ = [some (.ref a), some (.ref q1), some (.ref d), v3, v4, v5] ∧ H' q1 = some (.lst vrs) ∧ H' d = some (.dK kvs) ∧ kvs.length ≤ 6 * i ∧ vrs.length ≤ i ∧ ∀ v ∈ vrs, ∃ b r, v = .ref b ∧ b ≠ q1 ∧ H' b = some (.lst (tI r)) ∧ RingOf n p r)
      ⟨s0, [], [], none, none, none, rfl, by rw [upd_ne hdq.symm, upd_same], upd_same, Nat.zero_le _, Nat.zero_le _, fun v hv => (List.not_mem_nil hv).elim⟩ (fun i σ H h => h.1) ?_ ?_
    · rintro i x σ H4 H5 hi ⟨sm, vrs, kvs, v3, v4, v5, rfl, h4q, h4d, hk, hv, hr⟩ s45 rfl
      have hi : i < n := by simpa using hi
      have sm5 := sm.trans s45
      have h5q := s45 _ _ h4q
      have h5d := s45 _ _ h4d
      rw [Int.zero_add]
      refine ⟨_, rfl, _, rfl, d, _, rfl, DGet.k (k := .inl (i : Int)) h5d, _, rfl, ?_⟩
      refine ite2 (fun hnew => ?_) (fun hold => ?_)
      · -- ring = [first]
        refine ⟨_, rfl, szl (by show 1 ≤ 1000000; decide), fun b nb => ?_⟩
        have s56 : Same H5 (upd H5 b (.lst [.int (i : Int)])) := same_upd nb
        have hbq : b ≠ q1 := fun e => by rw [e, h5q] at nb; cases nb
        have hbd : b ≠ d := fun e => by rw [e, h5d] at nb; cases nb
        have hbH : H b = none := sm5.free nb
        -- while turn[ring[-1]] != first
        refine ⟨fun m σ H' => Same H H' ∧ ∃ r v5, σ = [some (.ref a), some (.ref q1), some (.ref d), some (.int (i : Int)), some (.ref b), v5] ∧ m = n - r.length ∧ H' b = some (.lst (tI r)) ∧ H' q1 = some (.lst vrs) ∧ H' d = some (.dK kvs) ∧ Chain n p r i ∧ ∀ v ∈ vrs, ∃ b' r, v = .ref b' ∧ b' ≠ q1 ∧ b' ≠ b ∧ H' b' = some (.lst (tI r)) ∧ RingOf n p r,
          ⟨n - 1, sm5.trans s56, [i], v5, rfl, rfl, upd_same, s56 _ _ h5q, s56 _ _ h5d, ⟨by simp, fun x hx => by rw [List.mem_singleton.mp hx]; exact hi, rfl, fun j x y h1 h2 => by simp at h2⟩, fun v hv => ?_⟩, ?_⟩
        · obtain ⟨b', r, e1, e2, e3, e4⟩ := hr v hv
          have h5b := s45 _ _ e3
          exact ⟨b', r, e1, e2, fun e => (by rw [e, nb] at h5b; cases h5b), s56 _ _ h5b, e4⟩
        · rintro m σ H6 ⟨sm6, r, v5, rfl, rfl, h6b, h6q, h6d, hch, hr6⟩
          obtain ⟨m0, z, rfl⟩ := split_last hch.pos
          have hz : z < n := hch.lt z (List.mem_append_right _ (List.mem_singleton.mpr rfl))
          have e6 : tI (m0 ++ [z]) = tI m0 ++ [.int (z : Int)] := by unfold tI; rw [List.map_append]; rfl
          have eG := hP.get hz
          refine ⟨_, rfl, _, rfl, 1, rfl, b, _, -1, .int (z : Int), rfl, rfl, SqL.of (by rw [h6b, e6]), atI_last _ _, a, tI p, (z : Int), .int ((p.getD z 0 : Nat) : Int), rfl, rfl, SqT.of (sm6 _ _ ha), atI_nat (tI_at eG), _, rfl, rfl, _, rfl, ?_⟩
          refine ite2 (fun hne => ?_) (fun heq => ?_)
          · have hne : p.getD z 0 ≠ i := fun e => by
              rw [e] at hne
              simp at hne
            have hmore := hch.more hP hne
            refine ⟨fun σ' H' => ∃ m', m' < n - (m0 ++ [z]).length ∧ Same H H' ∧ ∃ r v5, σ' = [some (.ref a), some (.ref q1), some (.ref d), some (.int (i : Int)), some (.ref b), v5] ∧ m' = n - r.length ∧ H' b = some (.lst (tI r)) ∧ H' q1 = some (.lst vrs) ∧ H' d = some (.dK kvs) ∧ Chain n p r i ∧ ∀ v ∈ vrs, ∃ b' r, v = .ref b' ∧ b' ≠ q1 ∧ b' ≠ b ∧ H' b' = some (.lst (tI r)) ∧ RingOf n p r, fun σ' H' h => h, ?_⟩
            refine ⟨.ref b, rfl, .inl ⟨rfl, _, SqL.of h6b⟩, _, rfl, _, rfl, 1, rfl, b, _, -1, .int (z : Int), rfl, rfl, SqL.of (by rw [h6b, e6]), atI_last _ _, a, tI p, (z : Int), .int ((p.getD z 0 : Nat) : Int), rfl, rfl, SqT.of (sm6 _ _ ha), atI_nat (tI_at eG), b, _, _, rfl, rfl, h6b, by rw [tI_len]; exact szl' (by have := hch.few; omega), ?_⟩
            have hf := hmore.few
            refine ⟨n - (m0 ++ [z] ++ [p.getD z 0]).length, by simp at hf ⊢; omega, sm6.upd' hbH, m0 ++ [z] ++ [p.getD z 0], _, rfl, rfl, ?_, by rw [upd_ne hbq.symm]; exact h6q, by rw [upd_ne hbd.symm]; exact h6d, hmore, fun v hv => ?_⟩
            · rw [upd_same]
              unfold tI
              rw [List.map_append (l₁ := m0 ++ [z])]
              rfl
            · obtain ⟨b', r, e1, e2, e3, e4, e5⟩ := hr6 v hv
              exact ⟨b', r, e1, e2, e3, by rw [upd_ne e3]; exact e4, e5⟩
          · have heq : p.getD z 0 = i := by
              by_cases e : p.getD z 0 = i
              · exact e
              · refine absurd ?_ heq
                rw [decide_eq_false (fun z => by injection z with z; omega)]
                rfl
            have hring : RingOf n p (m0 ++ [z]) := ⟨hch.nd, hch.lt, hch.pos, hch.next, fun x y h1 h2 => by
              rw [last_get] at h1
              rw [hch.hd] at h2
              cases h1
              cases h2
              rw [eG, heq]⟩
            -- for at in ring
            refine ⟨_, rfl, b, rfl, ⟨_, SqL.of h6b⟩, ?_⟩
            refine for_wk (wk_lst (K := K) (H0 := only b (.lst (tI (m0 ++ [z])))) (SqL.of (only_at _ _))) (fun j σ H' => Same (only b (.lst (tI (m0 ++ [z])))) H' ∧ Same H H' ∧ ∃ kvs' v5, σ = [some (.ref a), some (.ref q1), some (.ref d), some (.int (i : Int)), some (.ref b), v5] ∧ H' q1 = some (.lst vrs) ∧ H' d = some (.dK kvs') ∧ kvs'.length ≤ kvs.length + j ∧ ∀ v ∈ vrs, ∃ b' r, v = .ref b' ∧ b' ≠ q1 ∧ b' ≠ b ∧ H' b' = some (.lst (tI r)) ∧ RingOf n p r)
              ⟨only_same h6b, sm6, kvs, v5, rfl, h6q, h6d, Nat.le_refl _, hr6⟩ (fun i σ H h => h.1) ?_ ?_
            · rintro j x σ H7 H8 hj ⟨so, sm7, kvs', v5, rfl, h7q, h7d, hk7, hr7⟩ s78 hx
              obtain ⟨y, hy, rfl⟩ := tI_get hx
              have h8b := s78 _ _ (so _ _ (only_at _ _))
              have h8d := s78 _ _ h7d
              rw [tI_len] at hj
              have hf := hch.few
              refine ⟨_, rfl, _, rfl, d, _, rfl, DPut.k (k := .inl (y : Int)) h8d (szl' (by omega)), only_same (by rw [upd_ne hbd]; exact h8b), (sm7.trans s78).upd' hdH, _, _, rfl, by rw [upd_ne hdq.symm]; exact s78 _ _ h7q, upd_same, ?_, fun v hv => ?_⟩
              · have := length_putK kvs' (.inl (y : Int)) (.bl true)
                omega
              · obtain ⟨b', r, e1, e2, e3, e4, e5⟩ := hr7 v hv
                have h8 := s78 _ _ e4
                exact ⟨b', r, e1, e2, e3, by rw [upd_ne (ne_of h8 h8d (fun z => nomatch z))]; exact h8, e5⟩
            · rintro σ H7 ⟨so, sm7, kvs', v5, rfl, h7q, h7d, hk7, hr7⟩
              have h7b := so _ _ (only_at _ _)
              rw [tI_len] at hk7
              have hf := hch.few
              refine ⟨.ref q1, rfl, .inl ⟨rfl, _, SqL.of h7q⟩, _, rfl, q1, vrs, .ref b, rfl, rfl, h7q, szl' (by omega), sm7.upd' hq1, vrs ++ [.ref b], kvs', _, _, _, rfl, upd_same, by rw [upd_ne hdq]; exact h7d, by omega, by rw [List.length_append]; show vrs.length + 1 ≤ _; omega, fun v hv => ?_⟩
              rcases List.mem_append.mp hv with h | h
              · obtain ⟨b', r, e1, e2, e3, e4, e5⟩ := hr7 v h
                exact ⟨b', r, e1, e2, by rw [upd_ne e2]; exact e4, e5⟩
              · rw [List.mem_singleton.mp h]
                exact ⟨b, _, rfl, hbq, by rw [upd_ne hbq]; exact h7b, hring⟩
      · refine ⟨sm5, vrs, kvs, _, _, _, rfl, h5q, h5d, by omega, by omega, fun v hv => ?_⟩
        obtain ⟨b', r, e1, e2, e3, e4⟩ := hr v hv
        exact ⟨b', r, e1, e2, s45 _ _ e3, e4⟩
    · rintro σ H4 ⟨sm, vrs, kvs, v3, v4, v5, rfl, h4q, h4d, hk, hv, hr⟩
      refine ⟨_, rfl, q H4 q1 vrs hq1 sm h4q fun v hv => ?_⟩
      obtain ⟨b', r, e1, e2, e3, e4⟩ := hr v hv
      exact ⟨b', r, e1, e3, e4⟩
end
end Kn
/-! L0 -/
set_option maxHeartbeats 1000000
namespace Kn
open PySem PySem.Spec PyProof.Rows L2
/-- a def of the module with defaults -/
abbrev FnPD (K : Fr) (x : Str) (st : Stmt) (dvs : List V) (f : Addr) (fd : FuncData) : Prop := FunD K x x (defArgs st) (defBody st) (defScope st) dvs [] f fd
/-- a def called with its defaults -/
structure FoD (P : Program) (w : World) (K : Fr) (mg : Str → Option Value) (base : Heap) (x : Str) (ps : List Str) (k : Nat) (sp : Sp) (dvs : List V) : Prop where
  ex : ∃ fd ds, FnOk P w K mg base CX0 k (He.ga K x) fd ps sp ∧ Binds K fd ps ds ∧ Vals dvs ds
  g : mg x = some (.ref (He.ga K x))
  kp : PySem.W.keepIn K (.ref (He.ga K x)) = true
theorem pcD {X : Cx} {x : Str} {ps : List Str} {j k : Nat} {sp : Sp} {dvs : List V} {e : Expr} {es : List Expr} {t : TA} {p pos : Pos} (F : FoD X.prog X.w X.K X.mg X.base x ps j sp dvs) (hr : Room k X.A) (hg : Gl X x) (ha : PA X (e :: es) t) (hjk : j ≤ k := by first | decide | exact Nat.le_refl _)
    (hdb : (x == ("__debug__" : Str)) = false := by decide) (he : starEach (e :: es) X.env = (false, eval e X.env) :: starEach es X.env := by rfl) (hpl : (backTo pos (starEach es X.env)).any (·.1) = false := by rfl) :
    PE X (.Call (.Name x p) (e :: es) [] pos) (tCall sp dvs E0 t) := by
  obtain ⟨fd, ds, G, b, hd⟩ := F.ex
  exact pe_call G (hr.mono hjk) hg F.g F.kp b hd pass0 ha hdb he hpl
/-- the module's constants -/
structure Ct (mg : Str → Option Value) : Prop where
  SMALL : ∃ u, mg "SMALL" = some u ∧ RelV (.str (txt (List.range 26))) u
  MOST_LETTERS : ∃ u, mg "MOST_LETTERS" = some u ∧ RelV (.int 4) u
  MOST_BUILT : ∃ u, mg "MOST_BUILT" = some u ∧ RelV (.int 6) u
  MOST_STATES : ∃ u, mg "MOST_STATES" = some u ∧ RelV (.int 1000) u
  MOST_PRIME_build : ∃ u, mg "MOST_PRIME_build" = some u ∧ RelV (.int 97) u
theorem pe_globE {X : Cx} {x : Str} {v : V} {pos : Pos} (h : ∃ u, X.mg x = some u ∧ RelV v u) (hg : Gl X x) (hd : (x == ("__debug__" : Str)) = false := by decide) : PE X (.Name x pos) (tC v) := by
  obtain ⟨u, h1, h2⟩ := h
  exact pe_glob hg h1 h2 hd
theorem callIsi {X : Cx} (K : Fr) (hK : X.K = K := by rfl) : CallR X (.builtin "isinstance") (rIsi K) := by subst hK; exact call_isi
theorem callIsiT {X : Cx} (K : Fr) (hK : X.K = K := by rfl) : CallR X (.builtin "isinstance") (rIsiT K) := by subst hK; exact call_isiT
/-- isinstance answered -/
theorem isi {K : Fr} {H : Hp} {Q : VK} {x : V} {a b : String} {r : Bool} (hT : TyX K H x (.type a)) (hb : kitB a b = some r) (q : Q (.bl r) H) : rIsi K [x, .ty b] H Q := ⟨x, .ty b, .type a, .type b, r, rfl, .ty b, hT, kit_ty hb, q⟩
theorem tyI {K : Fr} {H : Hp} {i : Int} : TyX K H (.int i) (.type "int") := .base (.int i)
theorem tyS {K : Fr} {H : Hp} {z : Str} : TyX K H (.str z) (.type "str") := .base (.str z)
theorem tyB {K : Fr} {H : Hp} {z : Bool} : TyX K H (.bl z) (.type "bool") := .base (.bl z)
theorem tyN {K : Fr} {H : Hp} : TyX K H .non (.type "NoneType") := .base .non
theorem tyT {K : Fr} {H : Hp} {a : Addr} {xs : List V} (h : H a = some (.tup xs)) : TyX K H (.ref a) (.type "tuple") := .base (.tup h)
theorem tyL {K : Fr} {H : Hp} {a : Addr} {xs : List V} (h : H a = some (.lst xs)) : TyX K H (.ref a) (.type "list") := .base (.lst h)
theorem k_ii : kitB "int" "int" = some true := by decide +kernel
theorem k_ib : kitB "int" "bool" = some false := by decide +kernel
theorem k_ss : kitB "str" "str" = some true := by decide +kernel
theorem k_tt : kitB "tuple" "tuple" = some true := by decide +kernel
theorem k_lt : kitB "list" "tuple" = some false := by decide +kernel
theorem k_tl : kitB "tuple" "list" = some false := by decide +kernel
theorem k_ll : kitB "list" "list" = some true := by decide +kernel
theorem k_it : kitB "int" "tuple" = some false := by decide +kernel
theorem k_il : kitB "int" "list" = some false := by decide +kernel
theorem k_st : kitB "str" "tuple" = some false := by decide +kernel
theorem k_sl : kitB "str" "list" = some false := by decide +kernel
theorem k_bb : kitB "bool" "bool" = some true := by decide +kernel
theorem k_bi : kitB "bool" "int" = some true := by decide +kernel
theorem k_bt : kitB "bool" "tuple" = some false := by decide +kernel
theorem k_bl : kitB "bool" "list" = some false := by decide +kernel
theorem k_bs : kitB "bool" "str" = some false := by decide +kernel
theorem k_sb : kitB "str" "bool" = some false := by decide +kernel
theorem k_si : kitB "str" "int" = some false := by decide +kernel
theorem k_is : kitB "int" "str" = some false := by decide +kernel
theorem small_txt : (Str.ofString "abcdefghijklmnopqrstuvwxyz") = txt (List.range 26) := by decide +kernel
section
variable {J : It} {H0 : Hp} {n : Nat} {Xr : Nat → V → Hp → Prop}
/-- [truth for target in J], the truths told by bf -/
theorem lc_bools {g : TG} {te : TE} {vs : List Nat} {σ : L2.St} {H1 : Hp} {D : Addr} {Qd : Hp → Prop} (bf : Nat → Bool) (Wl : Wk J H1 n Xr) (hD : H1 D = none) (hz : n ≤ 1000000) (S : Nat → L2.St → Hp → Prop)
    (hg : ∀ i x H (Q : L2.St → Hp → Prop), i < n → Same H1 H → Xr i x H → (∀ σ2, wipe σ2 vs = wipe σ vs → S i σ2 H → Q σ2 H) → g x (wipe σ vs) H Q)
    (he : ∀ i σ2 H, i < n → Same H1 H → S i σ2 H → Ev te σ2 H (fun y _ => y = V.bl (bf i)))
    (hd : ∀ H, Same H1 H → H D = some (.lst (((List.range n).map bf).map V.bl)) → Qd H) :
    ∃ W : Nat → Nat → Hp → Prop, (∃ m, W 0 m (upd H1 D (.lst []))) ∧ ∀ i m H, W i m H →
      (J.stop i H ∧ Qd H) ∨ (J.go i H ∧ ∃ Nx : Hp → Prop, (∀ H', Nx H' → ∃ m', m' < m ∧ W (i + 1) m' H') ∧ ∀ x H', J.yld i H x H' → g x (wipe σ vs) H' fun σ2 H2 => wipe σ2 vs = wipe σ vs ∧ tYes σ2 H2 fun b H3 =>
        if b = true then te σ2 H3 fun y H4 => ∃ acc, H4 D = some (.lst acc) ∧ acc.length < sizeLine ∧ Nx (upd H4 D (.lst (acc ++ [y]))) else Nx H3) := by
  refine lc_map Wl hD hz S (fun i y _ => y = V.bl (bf i)) (fun _ _ _ _ _ _ h => h) hg he ?_
  intro ys H sm hl hlen hr
  refine hd H sm ?_
  rw [hl]
  congr 2
  apply List.ext_getElem?
  intro i
  rw [List.map_map, List.getElem?_map]
  cases e : ys[i]? with
  | none =>
    have := List.getElem?_eq_none_iff.mp e
    rw [List.getElem?_eq_none (by rw [List.length_range]; omega)]
    rfl
  | some y =>
    have hi : i < n := by rw [← hlen]; exact (List.getElem?_eq_some_iff.mp e).1
    rw [hr i y e, range_get hi]
    rfl
end
theorem all_range {n : Nat} {bf : Nat → Bool} : (((List.range n).map bf).all id = true) ↔ ∀ i, i < n → bf i = true := by
  rw [List.all_eq_true]
  constructor
  · intro h i hi
    exact h (bf i) (List.mem_map.mpr ⟨i, List.mem_range.mpr hi, rfl⟩)
  · intro h b hb
    obtain ⟨i, hi, rfl⟩ := List.mem_map.mp hb
    exact h i (List.mem_range.mp hi)
/-- ascending by neighbours -/
theorem pw_next : ∀ {w : List Nat}, (∀ i, i + 1 < w.length → w.getD i 0 < w.getD (i + 1) 0) → w.Pairwise (· < ·)
  | [], _ => .nil
  | [x], _ => by simp
  | x :: y :: r, h => by
    have hr : (y :: r).Pairwise (· < ·) := pw_next fun i hi => by
      have := h (i + 1) (by simp at hi ⊢; omega)
      simpa using this
    have hxy : x < y := by simpa using h 0 (by simp)
    refine List.pairwise_cons.mpr ⟨fun z hz => ?_, hr⟩
    rcases List.mem_cons.mp hz with e | e
    · rw [e]; exact hxy
    · exact Nat.lt_trans hxy (List.rel_of_pairwise_cons hr e)
theorem pw_get {w : List Nat} (h : w.Pairwise (· < ·)) {i : Nat} (hi : i + 1 < w.length) : w.getD i 0 < w.getD (i + 1) 0 := by
  rw [List.getD_eq_getElem?_getD, List.getD_eq_getElem?_getD, List.getElem?_eq_getElem (by omega), List.getElem?_eq_getElem hi]
  exact List.pairwise_iff_getElem.mp h i (i + 1) (by omega) hi (Nat.lt_succ_self _)
theorem asc_iff {w : List Nat} : (((List.range (w.length - 1)).map fun i => decide (w.getD i 0 < w.getD (i + 1) 0)).all id) = decide (w.Pairwise (· < ·)) := by
  rw [Bool.eq_iff_iff, all_range, decide_eq_true_iff]
  exact ⟨fun h => pw_next fun i hi => of_decide_eq_true (h i (by omega)), fun h i hi => decide_eq_true (pw_get h (by omega))⟩
theorem get_of {w : List Nat} {i : Nat} {α : Type} {f : Nat → α} {x : α} (h : (w.map f)[i]? = some x) : x = f (w.getD i 0) ∧ i < w.length := by
  rw [List.getElem?_map] at h
  cases e : w[i]? with
  | none => rw [e] at h; cases h
  | some y =>
    rw [e] at h
    cases h
    exact ⟨by rw [List.getD_eq_getElem?_getD, e]; rfl, (List.getElem?_eq_some_iff.mp e).1⟩
theorem getD_drop1 (w : List Nat) (i : Nat) : (w.drop 1).getD i 0 = w.getD (i + 1) 0 := by
  rw [List.getD_eq_getElem?_getD, List.getD_eq_getElem?_getD, List.getElem?_drop, Nat.add_comm]
theorem cut1 {w : List Nat} (h : 1 ≤ w.length) : cutS (txt w) (some 1) none = txt (w.drop 1) := by
  unfold cutS
  have e1 : HT.sIx (txt w).length 0 (some 1) = 1 := by
    rw [show (some (1 : Int)) = some ((1 : Nat) : Int) from rfl, HT.sIx_nat, txt_len]
    omega
  rw [e1, HT.sIx_none, txt_len]
  unfold txt
  rw [List.take_of_length_le (by simp)]
  simp [List.map_drop]
theorem txt_lt {a b : Nat} : (decide ((txt [a]).cps.toList < (txt [b]).cps.toList)) = decide (a < b) := by
  have e1 : (txt [a]).cps.toList = [a + 97] := rfl
  have e2 : (txt [b]).cps.toList = [b + 97] := rfl
  rw [e1, e2, Bool.eq_iff_iff, decide_eq_true_iff, decide_eq_true_iff]
  constructor
  · intro h
    rcases List.cons_lt_cons_iff.mp h with h | ⟨_, h⟩
    · omega
    · exact absurd h (List.not_lt_nil _)
  · intro h
    exact List.cons_lt_cons_iff.mpr (.inl (by omega))
theorem mem_txt {x : Nat} {a : List Nat} : (x + 97) ∈ (txt a).cps.toList ↔ x ∈ a := by
  have e : (txt a).cps.toList = a.map (· + 97) := by unfold txt; simp
  rw [e]
  exact ⟨fun h => by
    obtain ⟨y, hy, e⟩ := List.mem_map.mp h
    have : y = x := by omega
    rw [← this]; exact hy, fun h => List.mem_map.mpr ⟨x, h, rfl⟩⟩
theorem txt_cps {w : List Nat} {i c : Nat} (h : (txt w).cps[i]? = some c) : c = w.getD i 0 + 97 ∧ i < w.length ∧ w[i]? = some (w.getD i 0) := by
  have h : (w.map (· + 97))[i]? = some c := by
    unfold txt at h
    simpa using h
  obtain ⟨h1, h2⟩ := get_of h
  exact ⟨h1, h2, by rw [List.getD_eq_getElem?_getD, List.getElem?_eq_getElem h2]; rfl⟩
/-- [sign in a for sign in w]: all are -/
theorem lc_signs {te : TE} {g : TG} {vs : List Nat} {σ : L2.St} {H1 : Hp} {D : Addr} {Qd : Hp → Prop} {w a : List Nat} (hw : ∀ i ∈ w, i ∈ a) (hl : w.length ≤ 1000000) (hD : H1 D = none) (S : Nat → L2.St → Prop)
    (hg : ∀ x H (Q : L2.St → Hp → Prop), x ∈ w → (∀ σ2, wipe σ2 vs = wipe σ vs → S x σ2 → Q σ2 H) → g (.str (txt [x])) (wipe σ vs) H Q)
    (he : ∀ x σ2 H, S x σ2 → Ev te σ2 H (fun y _ => y = V.bl (decide ((x + 97) ∈ (txt a).cps.toList))))
    (hd : ∀ H, Same H1 H → H D = some (.lst (((List.range w.length).map fun _ => true).map V.bl)) → Qd H) :
    ∃ W : Nat → Nat → Hp → Prop, (∃ m, W 0 m (upd H1 D (.lst []))) ∧ ∀ i m H, W i m H →
      ((Its (txt w)).stop i H ∧ Qd H) ∨ ((Its (txt w)).go i H ∧ ∃ Nx : Hp → Prop, (∀ H', Nx H' → ∃ m', m' < m ∧ W (i + 1) m' H') ∧ ∀ x H', (Its (txt w)).yld i H x H' → g x (wipe σ vs) H' fun σ2 H2 => wipe σ2 vs = wipe σ vs ∧ tYes σ2 H2 fun b H3 =>
        if b = true then te σ2 H3 fun y H4 => ∃ acc, H4 D = some (.lst acc) ∧ acc.length < sizeLine ∧ Nx (upd H4 D (.lst (acc ++ [y]))) else Nx H3) := by
  have W := wk_str (H0 := H1) (z := txt w)
  have hz : (txt w).cps.size = w.length := txt_len w
  rw [hz] at W
  refine lc_bools (fun _ => true) W hD hl (fun i σ2 _ => ∃ x, x ∈ w ∧ S x σ2) ?_ ?_ ?_
  · rintro i x H' Q' hi sm ⟨c, hc, rfl⟩ k
    obtain ⟨rfl, h1, h2⟩ := txt_cps hc
    have hm := List.mem_of_getElem? h2
    exact hg _ H' Q' hm fun σ2 h3 h4 => k σ2 h3 ⟨_, hm, h4⟩
  · rintro i σ2 H' hi sm ⟨x, hx, hS⟩ Q' q'
    refine he x σ2 H' hS Q' fun v H'' sm' e => q' v H'' sm' ?_
    rw [e, decide_eq_true (mem_txt.mpr (hw x hx))]
  · exact hd
theorem all_true (n : Nat) : ((List.range n).map fun _ => true).all id = true := all_range.mpr fun _ _ => rfl
theorem kitAny_ll {K : Fr} : PySem.W.kitAny K (.type "list") [.type "list", .type "tuple"] = some true := kitAny_cons (kit_ty k_ll) (fun h => nomatch h) (fun _ => rfl)
theorem kitAny_lt {K : Fr} : PySem.W.kitAny K (.type "tuple") [.type "list", .type "tuple"] = some true := kitAny_cons (kit_ty k_tl) (fun _ => kitAny_cons (kit_ty k_tt) (fun h => nomatch h) (fun _ => rfl)) (fun h => nomatch h)
/-- two readings of one operation -/
theorem op_or {X : Cx} {f : Value → Value → Sem Value} {r1 r2 : R2} (h1 : OpR X f r1) (h2 : OpR X f r2) : OpR X f (fun x y H Q => r1 x y H Q ∨ r2 x y H Q) := fun pins s σ H x y v u Q I rx ry h => h.elim (h1 pins s σ H x y v u Q I rx ry) (h2 pins s σ H x y v u Q I rx ry)
end Kn
/-! L1 -/
set_option maxHeartbeats 1000000
namespace Kn
open PySem PySem.Spec PyProof.Rows L2
theorem sc_is_number : FnScope ["value", "least", "most"] ["value", "least", "most"] (defScope s_is_number) := ⟨rfl, rfl, rfl, by decide +kernel, rfl, by decide +kernel, by decide +kernel⟩
theorem sc_is_prime : FnScope ["value", "most", "divisor"] ["value", "most"] (defScope s_is_prime) := ⟨rfl, rfl, rfl, by decide +kernel, rfl, by decide +kernel, by decide +kernel⟩
theorem sc_ascends : FnScope ["letters", "one", "other"] ["letters"] (defScope s_ascends) := ⟨rfl, rfl, rfl, by decide +kernel, rfl, by decide +kernel, by decide +kernel⟩
theorem sc_is_alphabet : FnScope ["value", "sign"] ["value"] (defScope s_is_alphabet) := ⟨rfl, rfl, rfl, by decide +kernel, rfl, by decide +kernel, by decide +kernel⟩
theorem sc_is_word : FnScope ["alphabet", "value", "sign"] ["alphabet", "value"] (defScope s_is_word) := ⟨rfl, rfl, rfl, by decide +kernel, rfl, by decide +kernel, by decide +kernel⟩
theorem sc_need_alphabet : FnScope ["value"] ["value"] (defScope s_need_alphabet) := ⟨rfl, rfl, rfl, by decide +kernel, rfl, by decide +kernel, by decide +kernel⟩
theorem sc_need_word : FnScope ["alphabet", "value"] ["alphabet", "value"] (defScope s_need_word) := ⟨rfl, rfl, rfl, by decide +kernel, rfl, by decide +kernel, by decide +kernel⟩
def atMost (m : V) (v : Int) : Bool := match m with
  | .int j => decide (v ≤ j)
  | _ => true
def sp_number : Sp := fun vs H Q _ => ∃ (v l : Int) (m : V), vs = [.int v, .int l, m] ∧ (m = .non ∨ ∃ j, m = .int j) ∧ Q (.bl (decide (l ≤ v) && atMost m v)) H
section
variable {P : Program} {w : World} {K : Fr} {mg : Str → Option Value} {base : Heap} {fd : FuncData} {f : Addr}
theorem ok_number (F0 : FnPD K "is_number" s_is_number [.non] f fd) (T : Bt mg) : FnOk P w K mg base CX0 1 f fd ["value", "least", "most"] sp_number := by
  refine F0.ok sc_is_number (fun vs H Q E h => ?_) (fun cdv A outer s H vs Q E hr h => ?_)
  · obtain ⟨v, l, m, rfl, _⟩ := h
    rfl
  · obtain ⟨v, l, m, rfl, hm, q⟩ := h
    refine ⟨_, PSs.nox (pss_cons (ps_if (PW.pt (pw_or (pt_not (pt_val (pe_callB (callIsi K) (by rfl) T.isinstance (by decide +kernel) (pa_cons (pv 0) (pa_cons (pe_bltn (v := .ty "int") (by rfl) T.int (by decide +kernel) rfl) pa_nil))))) (pw_or (pt_val (pe_callB (callIsi K) (by rfl) T.isinstance (by decide +kernel) (pa_cons (pv 0) (pa_cons (pe_bltn (v := .ty "bool") (by rfl) T.bool (by decide +kernel) rfl) pa_nil)))) (pw_or1 (pt_cmpR op_lt (pv 0) (pv 1) (nomark _)))))) (pss_one (ps_ret pe_bl)) pss_nil)
  (pss_one (ps_ret (pe_or (pe_cmpR op_isN (pv 2) pe_non (nomark _)) (pe_one (pe_cmpR op_le (pv 0) (pv 2) (nomark _))))))), ?_⟩
    refine ⟨_, rfl, _, _, _, _, _, rfl, .ty _, tyI, kit_ty k_ii, true, rfl, iteF ⟨_, rfl, _, _, _, _, _, rfl, .ty _, tyI, kit_ty k_ib, false, rfl, iteF ⟨_, rfl, _, rfl, v, l, rfl, rfl, _, rfl, ?_⟩⟩⟩
    refine ite2 (fun hlt => ?_) (fun hge => ?_)
    · have h := of_decide_eq_true hlt
      have e : (decide (l ≤ v) && atMost m v) = false := by rw [decide_eq_false (by omega)]; rfl
      rw [e] at q
      exact q
    · have h : l ≤ v := by
        rcases Int.lt_or_le v l with h | h
        · exact absurd (decide_eq_true h) hge
        · exact h
      rw [decide_eq_true h, Bool.true_and] at q
      rcases hm with rfl | ⟨j, rfl⟩
      · exact ⟨_, rfl, rfl, true, rfl, iteT q⟩
      · exact ⟨_, rfl, rfl, false, rfl, iteF ⟨_, rfl, _, rfl, v, j, rfl, rfl, q⟩⟩
/-- the primes below nine -/
def prm (v : Nat) : Bool := v == 2 || v == 3 || v == 5 || v == 7
def sp_prime : Sp := fun vs H Q _ => ∃ (v : Nat) (l : Int), vs = [.int (v : Int), .int l] ∧ v ≤ 8 ∧ (v : Int) ≤ l ∧ Q (.bl (prm v)) H
theorem ok_prime (F0 : FnP K "is_prime" s_is_prime f fd) (T : Bt mg) (F_is_number : Fo P w K mg base "is_number" ["value", "least", "most"] 1 sp_number) : FnOk P w K mg base CX0 2 f fd ["value", "most"] sp_prime := by
  refine F0.ok sc_is_prime (fun vs H Q E h => ?_) (fun cdv A outer s H vs Q E hr h => ?_)
  · obtain ⟨v, l, rfl, _⟩ := h
    rfl
  · obtain ⟨v, l, rfl, hv, hl, q⟩ := h
    refine ⟨_, PSs.nox (pss_cons (ps_if (pt_not (pt_val (pc F_is_number hr (by rfl) (pa_cons (pv 0) (pa_cons pe_int (pa_cons (pv 1) pa_nil)))))) (pss_one (ps_ret pe_bl)) pss_nil)
  (pss_cons (ps_set (i := 2) sc_is_prime.nd rfl (Or.inl rfl) pe_int)
  (pss_cons (ps_while PassesOwn.never (pt_cmpR op_le (pe_op op_mul (pv 2) (pv 2)) (pv 0) (nomark _)) (pss_cons (ps_if (pt_cmpR op_eq (pe_op op_mod (pv 0) (pv 2)) pe_int (nomark _)) (pss_one (ps_ret pe_bl)) pss_nil)
  (pss_one (ps_set (i := 2) sc_is_prime.nd rfl (Or.inl rfl) (pe_op op_add (pv 2) pe_int)))))
  (pss_one (ps_ret pe_bl))))), ?_⟩
    refine ⟨_, rfl, _, rfl, v, 2, .int l, rfl, .inr ⟨l, rfl⟩, _, rfl, ?_⟩
    have e1 : atMost (.int l) (v : Int) = true := decide_eq_true hl
    rw [e1, Bool.and_true]
    refine ite2 (fun hlt => ?_) (fun hge => ?_)
    · have h : v < 2 := by
        rcases Nat.lt_or_ge v 2 with h | h
        · exact h
        · rw [decide_eq_true (by omega)] at hlt
          cases hlt
      have e : prm v = false := by
        match v, h with
        | 0, _ => rfl
        | 1, _ => rfl
      rw [e] at q
      exact q
    · have h : 2 ≤ v := by
        rcases Nat.lt_or_ge v 2 with h | h
        · rw [decide_eq_false (by omega)] at hge
          exact absurd rfl hge
        · exact h
      refine ⟨fun m σ H' => ∃ d : Nat, σ = [some (.int (v : Int)), some (.int l), some (.int (d : Int))] ∧ m = 9 - d ∧ H' = H ∧ 2 ≤ d ∧ d ≤ 9 ∧ (3 ≤ d → v % 2 ≠ 0 ∨ v < 4), ⟨7, 2, rfl, rfl, rfl, Nat.le_refl _, by decide, fun h => by omega⟩, ?_⟩
      rintro m σ H4 ⟨d, rfl, rfl, rfl, hd2, hd9, hodd⟩
      refine ⟨_, rfl, _, rfl, (d : Int), (d : Int), rfl, rfl, .inl ⟨by omega, by omega⟩, _, rfl, (d : Int) * (d : Int), (v : Int), rfl, rfl, _, rfl, ?_⟩
      have hcast : ((d : Int) * (d : Int)) = ((d * d : Nat) : Int) := by rw [Int.natCast_mul]
      refine ite2 (fun hle => ?_) (fun hgt => ?_)
      · have hle : d * d ≤ v := by
          have := of_decide_eq_true hle
          rw [hcast] at this
          omega
        have hd : d = 2 := by
          rcases Nat.lt_or_ge d 3 with h | h
          · omega
          · have := Nat.mul_le_mul h h
            omega
        subst hd
        refine ⟨fun σ' H' => ∃ m', m' < 9 - 2 ∧ ∃ d : Nat, σ' = [some (.int (v : Int)), some (.int l), some (.int (d : Int))] ∧ m' = 9 - d ∧ H' = H4 ∧ 2 ≤ d ∧ d ≤ 9 ∧ (3 ≤ d → v % 2 ≠ 0 ∨ v < 4), fun σ' H' h => h, ?_⟩
        refine ⟨_, rfl, _, rfl, (v : Int), ((2 : Nat) : Int), rfl, rfl, (by show (0 : Int) < ((2 : Nat) : Int); decide), rfl, _, rfl, ?_⟩
        refine ite2 (fun hz => ?_) (fun hnz => ?_)
        · have e : prm v = false := by
            have hz : ((v : Int) % ((2 : Nat) : Int)) = 0 := by
              have := of_decide_eq_true hz
              injection this
            have hz : v % 2 = 0 := by omega
            have hv : v = 4 ∨ v = 6 ∨ v = 8 := by omega
            rcases hv with rfl | rfl | rfl <;> rfl
          rw [e] at q
          exact q
        · have hnz : v % 2 ≠ 0 := fun e => hnz (decide_eq_true (by
            have : ((v : Int) % ((2 : Nat) : Int)) = 0 := by omega
            exact congrArg V.int this))
          exact ⟨_, rfl, _, _, rfl, rfl, 6, by decide, 3, rfl, rfl, rfl, by decide, by decide, fun _ => .inl hnz⟩
      · have hgt : v < d * d := by
          rcases Nat.lt_or_ge v (d * d) with h | h
          · exact h
          · exact absurd (decide_eq_true (by rw [hcast]; omega)) hgt
        have e : prm v = true := by
          have hv2 : v = 2 ∨ v = 3 ∨ v = 5 ∨ v = 7 := by
            rcases Nat.lt_or_ge d 3 with h3 | h3
            · have : d = 2 := by omega
              subst this
              omega
            · have := hodd h3
              omega
          rcases hv2 with rfl | rfl | rfl | rfl <;> rfl
        rw [e] at q
        exact q
def sp_ascT : Sp := fun vs H Q _ => ∃ w : List Nat, vs = [.str (txt w)] ∧ 1 ≤ w.length ∧ w.length ≤ 26 ∧ ∀ H', Same H H' → Q (.bl (decide (w.Pairwise (· < ·)))) H'
theorem ok_ascT (F0 : FnP K "ascends" s_ascends f fd) (T : Bt mg) : FnOk P w K mg base CX0 1 f fd ["letters"] sp_ascT := by
  refine F0.ok sc_ascends (fun vs H Q E h => ?_) (fun cdv A outer s H vs Q E hr h => ?_)
  · obtain ⟨w, rfl, _⟩ := h
    rfl
  · obtain ⟨w, rfl, h2, h26, q⟩ := h
    refine ⟨_, PSs.nox (pss_one (ps_ret (pe_callB (crAll K) (by rfl) T.all (by decide +kernel) (pa_cons (pe_lc (own := [("one", 1), ("other", 2)]) (g := gTup K 2 (gCons (gName 1) (gCons (gName 2) gNil))) (tt := tYes) rfl sc_ascends.nd (pi_zipG (by rfl) T.zip (pa_cons (pv 0) (pa_cons (pe_slice sl_str (pv 0) (po_some pe_int) po_none) pa_nil)))
  (blkOk_by (N := ["letters", "one", "other"]) (sc := defScope s_ascends) (by decide +kernel)) (fun _ _ _ _ _ => (pg_tupK K rfl (pgs_cons (pg_name (i := 1) sc_ascends.nd rfl (Or.inl rfl)) (pgs_cons (pg_name (i := 2) sc_ascends.nd rfl (Or.inl rfl)) pgs_nil)))) (fun _ _ _ _ _ => pts_nil) (fun _ _ _ _ _ => (pe_cmpR op_lt_str (pv 1) (pv 2) (nomark _)))) pa_nil)))), ?_⟩
    have hl : (txt w).length ≤ sizeLine := by rw [txt_len]; exact szl (by omega)
    have hcut : cutS (txt w) (some 1) none = txt (w.drop 1) := cut1 (by omega)
    refine ⟨_, rfl, _, rfl, 1, rfl, _, rfl, hl, _, _, _, _, _, _, rfl, .txt _, .txt _, trivial, trivial, fun D hD => ?_⟩
    rw [hcut]
    have hn : min (signs (txt w)).length (signs (txt (w.drop 1))).length = w.length - 1 := by
      rw [signs_txt, signs_txt, List.length_map, List.length_map, List.length_drop]
      omega
    have W := wk_zip (H0 := H) (.txt (txt w)) (.txt (txt (w.drop 1))) trivial trivial
    rw [hn] at W
    refine lc_bools (fun i => decide (w.getD i 0 < w.getD (i + 1) 0)) W hD (by omega) (fun i σ2 _ => σ2 = [some (.str (txt w)), some (.str (txt [w.getD i 0])), some (.str (txt [w.getD (i + 1) 0]))]) ?_ ?_ ?_
    · rintro i x H' Q' hi sm ⟨T, x1, y1, rfl, hT, h1, h2⟩ k
      rw [signs_txt] at h1 h2
      obtain ⟨rfl, _⟩ := get_of h1
      obtain ⟨rfl, _⟩ := get_of h2
      rw [getD_drop1] at hT
      exact ⟨T, _, rfl, SqT.of hT, rfl, _, _, rfl, _, _, rfl, rfl, k _ rfl rfl⟩
    · rintro i σ2 H' hi sm rfl Q' q'
      refine ⟨_, rfl, _, rfl, txt [w.getD i 0], txt [w.getD (i + 1) 0], rfl, rfl, ?_⟩
      rw [txt_lt]
      exact q' _ _ (Same.refl _) rfl
    · intro H' sm hl
      refine ⟨D, _, rfl, SqL.of hl, ?_⟩
      rw [asc_iff]
      exact q _ sm
def sp_isal : Sp := fun vs H Q _ => ∃ k : Nat, vs = [.str (txt (List.range k))] ∧ 1 ≤ k ∧ k ≤ 4 ∧ ∀ H', Same H H' → Q (.bl true) H'
theorem ok_isal (F0 : FnP K "is_alphabet" s_is_alphabet f fd) (T : Bt mg) (Cn : Ct mg) (F_ascends : Fo P w K mg base "ascends" ["letters"] 1 sp_ascT) : FnOk P w K mg base CX0 2 f fd ["value"] sp_isal := by
  refine F0.ok sc_is_alphabet (fun vs H Q E h => ?_) (fun cdv A outer s H vs Q E hr h => ?_)
  · obtain ⟨w, rfl, _⟩ := h
    rfl
  · obtain ⟨k, rfl, h1, h4, q⟩ := h
    refine ⟨_, PSs.nox (pss_cons (ps_if (PW.pt (pw_or (pt_not (pt_val (pe_callB (callIsi K) (by rfl) T.isinstance (by decide +kernel) (pa_cons (pv 0) (pa_cons (pe_bltn (v := .ty "str") (by rfl) T.str (by decide +kernel) rfl) pa_nil))))) (pw_or1 (pt_not (pt_chain op_le op_le pe_int (pe_callB call_len_str (by rfl) T.len PySem.boot_len (pa_cons (pv 0) pa_nil)) (pe_globE Cn.MOST_LETTERS (by rfl))))))) (pss_one (ps_ret pe_bl)) pss_nil)
  (pss_one (ps_ret (pe_and (pe_callB (crAll K) (by rfl) T.all (by decide +kernel) (pa_cons (pe_lc (own := [("sign", 1)]) (g := gName 1) (tt := tYes) rfl sc_is_alphabet.nd (pi_str (pv 0))
  (blkOk_by (N := ["value", "sign"]) (sc := defScope s_is_alphabet) (by decide +kernel)) (fun _ _ _ _ _ => pg_name (i := 1) sc_is_alphabet.nd rfl (Or.inl rfl)) (fun _ _ _ _ _ => pts_nil) (fun _ _ _ _ _ => (pe_cmpR op_in_sign (pv 1) (pe_globE Cn.SMALL (by rfl)) (by rfl)))) pa_nil)) (pe_one (pc F_ascends hr (by rfl) (pa_cons (pv 0) pa_nil))))))), ?_⟩
    have hl : (txt (List.range k)).length = k := by rw [txt_len, List.length_range]
    have hz : (txt (List.range k)).length ≤ sizeLine := by rw [hl]; exact szl (by omega)
    refine ⟨_, rfl, _, _, _, _, _, rfl, .ty _, tyS, kit_ty k_ss, true, rfl, iteF ?_⟩
    refine ⟨_, rfl, _, rfl, hz, 1, ((txt (List.range k)).length : Int), rfl, rfl, _, rfl, ?_⟩
    rw [decide_eq_true (by rw [hl]; omega)]
    refine iteT ⟨((txt (List.range k)).length : Int), 4, rfl, rfl, _, rfl, ?_⟩
    rw [decide_eq_true (by rw [hl]; omega)]
    refine iteF ?_
    refine ⟨_, rfl, _, rfl, ?_⟩
    intro D hD
    refine lc_signs (a := List.range 26) (fun i hi => List.mem_range.mpr (by have := List.mem_range.mp hi; omega)) (by rw [List.length_range]; omega) hD (fun x σ2 => σ2 = [some (.str (txt (List.range k))), some (.str (txt [x]))]) (fun x H' Q' hx k => k _ rfl rfl) ?_ ?_
    · rintro x σ2 H' rfl Q' q'
      exact ⟨_, rfl, x + 97, _, rfl, rfl, q' _ _ (Same.refl _) rfl⟩
    · intro H' sm hl
      refine ⟨D, _, rfl, SqL.of hl, ?_⟩
      rw [all_true]
      refine ⟨true, rfl, iteT ⟨_, rfl, List.range k, rfl, by rw [List.length_range]; exact h1, by rw [List.length_range]; omega, fun H'' sm' => ?_⟩⟩
      rw [decide_eq_true (List.pairwise_lt_range)]
      exact q _ (sm.trans sm')
def sp_isw : Sp := fun vs H Q _ => ∃ (k : Nat) (w : List Nat), vs = [.str (txt (List.range k)), .str (txt w)] ∧ k ≤ 4 ∧ (∀ i ∈ w, i < k) ∧ w.length ≤ 1000000 ∧ ∀ H', Same H H' → Q (.bl true) H'
theorem ok_isw (F0 : FnP K "is_word" s_is_word f fd) (T : Bt mg) : FnOk P w K mg base CX0 1 f fd ["alphabet", "value"] sp_isw := by
  refine F0.ok sc_is_word (fun vs H Q E h => ?_) (fun cdv A outer s H vs Q E hr h => ?_)
  · obtain ⟨k, w, rfl, _⟩ := h
    rfl
  · obtain ⟨k, w, rfl, h1, h4, hl, q⟩ := h
    refine ⟨_, PSs.nox (pss_one (ps_ret (pe_and (pe_callB (callIsi K) (by rfl) T.isinstance (by decide +kernel) (pa_cons (pv 1) (pa_cons (pe_bltn (v := .ty "str") (by rfl) T.str (by decide +kernel) rfl) pa_nil))) (pe_one (pe_callB (crAll K) (by rfl) T.all (by decide +kernel) (pa_cons (pe_lc (own := [("sign", 2)]) (g := gName 2) (tt := tYes) rfl sc_is_word.nd (pi_str (pv 1))
  (blkOk_by (N := ["alphabet", "value", "sign"]) (sc := defScope s_is_word) (by decide +kernel)) (fun _ _ _ _ _ => pg_name (i := 2) sc_is_word.nd rfl (Or.inl rfl)) (fun _ _ _ _ _ => pts_nil) (fun _ _ _ _ _ => (pe_cmpR op_in_sign (pv 2) (pv 0) (by rfl)))) pa_nil)))))), ?_⟩
    refine ⟨_, rfl, _, _, _, _, _, rfl, .ty _, tyS, kit_ty k_ss, true, rfl, iteT ?_⟩
    refine ⟨_, rfl, _, rfl, ?_⟩
    intro D hD
    refine lc_signs (a := List.range k) (fun i hi => List.mem_range.mpr (h4 i hi)) hl hD (fun x σ2 => σ2 = [some (.str (txt (List.range k))), some (.str (txt w)), some (.str (txt [x]))]) (fun x H' Q' hx k => k _ rfl rfl) ?_ ?_
    · rintro x σ2 H' rfl Q' q'
      exact ⟨_, rfl, _, rfl, x + 97, _, rfl, rfl, q' _ _ (Same.refl _) rfl⟩
    · intro H' sm hl
      refine ⟨D, _, rfl, SqL.of hl, ?_⟩
      rw [all_true]
      exact q _ sm
def sp_needal : Sp := fun vs H Q _ => ∃ k : Nat, vs = [.str (txt (List.range k))] ∧ 1 ≤ k ∧ k ≤ 4 ∧ ∀ H', Same H H' → Q .non H'
theorem ok_needal (F0 : FnP K "need_alphabet" s_need_alphabet f fd) (T : Bt mg) (F_is_alphabet : Fo P w K mg base "is_alphabet" ["value"] 2 sp_isal) : FnOk P w K mg base CX0 3 f fd ["value"] sp_needal := by
  refine F0.ok sc_need_alphabet (fun vs H Q E h => ?_) (fun cdv A outer s H vs Q E hr h => ?_)
  · obtain ⟨w, rfl, _⟩ := h
    rfl
  · obtain ⟨k, rfl, h1, h4, q⟩ := h
    refine ⟨_, PSs.nox (pss_one (ps_if (pt_not (pt_val (pc F_is_alphabet hr (by rfl) (pa_cons (pv 0) pa_nil)))) (pss_one ps_never) pss_nil)), ?_⟩
    exact ⟨_, rfl, k, rfl, h1, h4, fun H' sm => ⟨true, rfl, iteF (q _ sm)⟩⟩
def sp_needw : Sp := fun vs H Q _ => ∃ (k : Nat) (w : List Nat), vs = [.str (txt (List.range k)), .str (txt w)] ∧ k ≤ 4 ∧ (∀ i ∈ w, i < k) ∧ w.length ≤ 1000000 ∧ ∀ H', Same H H' → Q .non H'
theorem ok_needw (F0 : FnP K "need_word" s_need_word f fd) (T : Bt mg) (F_is_word : Fo P w K mg base "is_word" ["alphabet", "value"] 1 sp_isw) : FnOk P w K mg base CX0 2 f fd ["alphabet", "value"] sp_needw := by
  refine F0.ok sc_need_word (fun vs H Q E h => ?_) (fun cdv A outer s H vs Q E hr h => ?_)
  · obtain ⟨k, w, rfl, _⟩ := h
    rfl
  · obtain ⟨k, w, rfl, h1, h4, hl, q⟩ := h
    refine ⟨_, PSs.nox (pss_one (ps_if (pt_not (pt_val (pc F_is_word hr (by rfl) (pa_cons (pv 0) (pa_cons (pv 1) pa_nil))))) (pss_one ps_never) pss_nil)), ?_⟩
    exact ⟨_, rfl, _, rfl, k, w, rfl, h1, h4, hl, fun H' sm => ⟨true, rfl, iteF (q _ sm)⟩⟩
end
end Kn
/-! L2c -/
set_option maxHeartbeats 1000000
namespace Kn
open PySem PySem.Spec PyProof.Rows L2
/-- tuples of what In tells -/
def TupOf {α : Type} (In : Hp → V → α → Prop) (H : Hp) (v : V) (xs : List α) : Prop := ∃ a vs, v = .ref a ∧ H a = some (.tup vs) ∧ vs.length = xs.length ∧ ∀ (i : Nat) (u : V), vs[i]? = some u → ∃ x, xs[i]? = some x ∧ In H u x
def IntV (_ : Hp) (v : V) (n : Nat) : Prop := v = .int (n : Int)
def StrV (_ : Hp) (v : V) (w : List Nat) : Prop := v = .str (txt w)
def Stab {α : Type} (In : Hp → V → α → Prop) : Prop := ∀ (H H' : Hp) (v : V) (x : α), Tame H H' → In H v x → In H' v x
theorem stab_int : Stab IntV := fun _ _ _ _ _ h => h
theorem stab_str : Stab StrV := fun _ _ _ _ _ h => h
theorem Stab.tup {α : Type} {In : Hp → V → α → Prop} (s : Stab In) : Stab (TupOf In) := fun H H' v xs t ⟨a, vs, e, h, hl, hi⟩ => ⟨a, vs, e, t.1 _ _ h, hl, fun i u hu => let ⟨x, h1, h2⟩ := hi i u hu; ⟨x, h1, s _ _ _ _ t h2⟩⟩
theorem tup_of {H : Hp} {v : V} {ns : List Nat} : TupOf IntV H v ns ↔ Tup H v ns := by
  constructor
  · rintro ⟨a, vs, rfl, h, hl, hi⟩
    refine ⟨a, rfl, ?_⟩
    rw [h, eq_tI hl fun i y hy => ?_]
    obtain ⟨n, h1, h2⟩ := hi i y hy
    exact ⟨n, h1, h2⟩
  · rintro ⟨a, rfl, h⟩
    exact ⟨a, tI ns, rfl, h, tI_len ns, fun i u hu => tI_get hu⟩
def sp_cp {α : Type} (In : Hp → V → α → Prop) : Sp := fun vs H Q _ => ∃ (v : V) (x : α), vs = [v] ∧ In H v x ∧ ∀ H' v', Same H H' → In H' v' x → Q v' H'
theorem sc_copied : FnScope ["value", "one"] ["value"] (defScope s_copied) := ⟨rfl, rfl, rfl, by decide +kernel, rfl, by decide +kernel, by decide +kernel⟩
section
variable {P : Program} {w : World} {K : Fr} {mg : Str → Option Value} {base : Heap} {fd : FuncData} {f : Addr}
theorem ok_cp0 {α : Type} (In : Hp → V → α → Prop) (hIn : ∀ H v x, In H v x → (∃ i, v = .int i) ∨ ∃ z, v = .str z) (F0 : FnP K "copied" s_copied f fd) (T : Bt mg) (F_copied : Fo P w K mg base "copied" ["value"] 0 (fun _ _ _ _ => False)) : FnOk P w K mg base CX0 1 f fd ["value"] (sp_cp In) := by
  refine F0.ok sc_copied (fun vs H Q E h => ?_) (fun cdv A outer s H vs Q E hr h => ?_)
  · obtain ⟨v, x, rfl, _⟩ := h
    rfl
  · obtain ⟨v, x, rfl, hv, q⟩ := h
    refine ⟨_, PSs.nox (pss_cons (ps_if (pt_val (pe_callB (callIsi K) (by rfl) T.isinstance (by decide +kernel) (pa_cons (pv 0) (pa_cons (pe_bltn (v := .ty "tuple") (by rfl) T.tuple (by decide +kernel) rfl) pa_nil)))) (pss_one (ps_ret (pe_callTy (callTupOf K) (by rfl) T.tuple (by decide +kernel) (pa_cons (pe_lc (own := [("one", 1)]) (g := gName 1) (tt := tYes) rfl sc_copied.nd (piT K (pv 0))
  (blkOk_by (N := ["value", "one"]) (sc := defScope s_copied) (by decide +kernel)) (fun _ _ _ _ _ => pg_name (i := 1) sc_copied.nd rfl (Or.inl rfl)) (fun _ _ _ _ _ => pts_nil) (fun _ _ _ _ _ => (pc F_copied hr (by rfl) (pa_cons (pv 1) pa_nil)))) pa_nil)))) pss_nil)
  (pss_one (ps_ret (pe_ifExp (pt_val (pe_callB (callIsi K) (by rfl) T.isinstance (by decide +kernel) (pa_cons (pv 0) (pa_cons (pe_bltn (v := .ty "list") (by rfl) T.list (by decide +kernel) rfl) pa_nil)))) (pe_lc (own := [("one", 1)]) (g := gName 1) (tt := tYes) rfl sc_copied.nd (piL K (pv 0)) (blkOk_by (N := ["value", "one"]) (sc := defScope s_copied) (by decide +kernel)) (fun _ _ _ _ _ => pg_name (i := 1) sc_copied.nd rfl (Or.inl rfl)) (fun _ _ _ _ _ => pts_nil) (fun _ _ _ _ _ => (pc F_copied hr (by rfl) (pa_cons (pv 1) pa_nil)))) (pv 0))))), ?_⟩
    rcases hIn H v x hv with ⟨i, rfl⟩ | ⟨z, rfl⟩
    · exact ⟨_, rfl, _, _, _, _, _, rfl, .ty _, tyI, kit_ty k_it, false, rfl, iteF ⟨_, rfl, _, _, _, _, _, rfl, .ty _, tyI, kit_ty k_il, false, rfl, iteF ⟨_, rfl, q _ _ (Same.refl _) hv⟩⟩⟩
    · exact ⟨_, rfl, _, _, _, _, _, rfl, .ty _, tyS, kit_ty k_st, false, rfl, iteF ⟨_, rfl, _, _, _, _, _, rfl, .ty _, tyS, kit_ty k_sl, false, rfl, iteF ⟨_, rfl, q _ _ (Same.refl _) hv⟩⟩⟩
theorem ok_cpS {α : Type} (In : Hp → V → α → Prop) (k : Nat) (hst : Stab In) (F0 : FnP K "copied" s_copied f fd) (T : Bt mg) (F_copied : Fo P w K mg base "copied" ["value"] k (sp_cp In)) : FnOk P w K mg base CX0 (k + 1) f fd ["value"] (fun vs H Q _ => ∃ (v : V) (xs : List α), vs = [v] ∧ xs.length ≤ 50000 ∧ TupOf In H v xs ∧ ∀ H' v', Same H H' → TupOf In H' v' xs → Q v' H') := by
  refine F0.ok sc_copied (fun vs H Q E h => ?_) (fun cdv A outer s H vs Q E hr h => ?_)
  · obtain ⟨v, x, rfl, _⟩ := h
    rfl
  · obtain ⟨v, xs, rfl, hz, ⟨a, vs, rfl, ha, hl, hi⟩, q⟩ := h
    refine ⟨_, PSs.nox (pss_cons (ps_if (pt_val (pe_callB (callIsi K) (by rfl) T.isinstance (by decide +kernel) (pa_cons (pv 0) (pa_cons (pe_bltn (v := .ty "tuple") (by rfl) T.tuple (by decide +kernel) rfl) pa_nil)))) (pss_one (ps_ret (pe_callTy (callTupOf K) (by rfl) T.tuple (by decide +kernel) (pa_cons (pe_lc (own := [("one", 1)]) (g := gName 1) (tt := tYes) rfl sc_copied.nd (piT K (pv 0))
  (blkOk_by (N := ["value", "one"]) (sc := defScope s_copied) (by decide +kernel)) (fun _ _ _ _ _ => pg_name (i := 1) sc_copied.nd rfl (Or.inl rfl)) (fun _ _ _ _ _ => pts_nil) (fun _ _ _ _ _ => (pc F_copied hr (by rfl) (pa_cons (pv 1) pa_nil)))) pa_nil)))) pss_nil)
  (pss_one (ps_ret (pe_ifExp (pt_val (pe_callB (callIsi K) (by rfl) T.isinstance (by decide +kernel) (pa_cons (pv 0) (pa_cons (pe_bltn (v := .ty "list") (by rfl) T.list (by decide +kernel) rfl) pa_nil)))) (pe_lc (own := [("one", 1)]) (g := gName 1) (tt := tYes) rfl sc_copied.nd (piL K (pv 0)) (blkOk_by (N := ["value", "one"]) (sc := defScope s_copied) (by decide +kernel)) (fun _ _ _ _ _ => pg_name (i := 1) sc_copied.nd rfl (Or.inl rfl)) (fun _ _ _ _ _ => pts_nil) (fun _ _ _ _ _ => (pc F_copied hr (by rfl) (pa_cons (pv 1) pa_nil)))) (pv 0))))), ?_⟩
    refine ⟨_, rfl, _, _, _, _, _, rfl, .ty _, tyT ha, kit_ty k_tt, true, rfl, iteT ?_⟩
    refine ⟨_, rfl, a, rfl, ⟨vs, SqT.of ha⟩, fun D hD => ?_⟩
    refine lc_map (wk_tup (SqT.of ha)) hD (by omega) (fun i σ2 H' => ∃ y x, vs[i]? = some y ∧ xs[i]? = some x ∧ σ2 = [some (.ref a), some y] ∧ In H' y x) (fun i y H' => ∃ x, xs[i]? = some x ∧ In H' y x) ?_ ?_ ?_ ?_
    · rintro i y H2 H3 hi' t ⟨x, h1, h2⟩
      exact ⟨x, h1, hst _ _ _ _ t h2⟩
    · rintro i y H' Q' hi' sm hy k
      obtain ⟨x, h1, h2⟩ := hi i y hy
      exact k _ rfl ⟨y, x, hy, h1, rfl, hst _ _ _ _ (Tame.of sm) h2⟩
    · rintro i σ2 H' hi' sm ⟨y, x, h1, h2, rfl, h3⟩ Q' q'
      exact ⟨_, rfl, y, x, rfl, h3, fun H'' v' s' h' => q' _ _ s' ⟨x, h2, h'⟩⟩
    · intro ys H' sm hD' hlen hr'
      refine ⟨D, ys, rfl, .inl ⟨SqL.of hD', fun l nl => ?_⟩⟩
      have s2 : Same H' (upd H' l (.tup ys)) := same_upd nl
      refine q _ _ (sm.trans s2) ⟨l, ys, rfl, upd_same, by rw [hlen, hl], fun i u hu => ?_⟩
      obtain ⟨x, h1, h2⟩ := hr' i u hu
      exact ⟨x, h1, hst _ _ _ _ (Tame.of s2) h2⟩
end
end Kn
/-! K3 -/
set_option maxHeartbeats 1000000
namespace Kn
open PySem PySem.Spec PyProof.Rows L2
/-- a method that keeps its promise -/
structure Mo (P : Program) (w : World) (K : Fr) (mg : Str → Option Value) (base : Heap) (C : Addr) (m : Str) (ps : List Str) (k : Nat) (sp : Sp) : Prop where
  ex : ∃ fd, FnOk P w K mg base CX0 k (He.ma K C m) fd ps sp ∧ Binds K fd ps []
  mt : Meth K C m (He.ma K C m)
section
variable {X : Cx} {C : Addr} {m : Str} {ps : List Str} {j k : Nat} {sp : Sp} {o e : Expr} {es : List Expr} {ta : TE} {t : TA} {apos pos : Pos}
theorem pm {pl : Sem Bool} (F : Mo X.prog X.w X.K X.mg X.base C m ps j sp) (c : Cls X.K C) (he : PE X o ta) (hr : Room k X.A) (ha : PA X (e :: es) t) (hjk : j ≤ k := by first | decide | exact Nat.le_refl _)
    (hst : starEach (e :: es) X.env = (false, eval e X.env) :: starEach es X.env := by rfl) (hpl : (backTo pos (starEach es X.env)).any (·.1) = false := by rfl)
    (ht : eval (.Call (.Attribute o m apos) (e :: es) [] pos) X.env = (do
      let ov ← eval o X.env
      standAt apos.atName
      let (f, first) ← holding [ov] (getMethod ov m pl)
      callWith pos f first (backTo pos (starEach (e :: es) X.env)) (backToKw pos (keywordEach [] X.env))) := by rfl) :
    PE X (.Call (.Attribute o m apos) (e :: es) [] pos) (tMeth C m sp [] E0 ta t) := by
  obtain ⟨fd, G, b⟩ := F.ex
  exact pe_meth he c F.mt G (hr.mono hjk) b .nil pass0 ha hst hpl ht
theorem pm0 {pl : Sem Bool} (F : Mo X.prog X.w X.K X.mg X.base C m ps j sp) (c : Cls X.K C) (he : PE X o ta) (hr : Room k X.A) (hjk : j ≤ k := by first | decide | exact Nat.le_refl _)
    (ht : eval (.Call (.Attribute o m apos) [] [] pos) X.env = (do
      let ov ← eval o X.env
      standAt apos.atName
      let (f, first) ← holding [ov] (getMethod ov m pl)
      callWith pos f first (backTo pos (starEach [] X.env)) (backToKw pos (keywordEach [] X.env))) := by rfl) :
    PE X (.Call (.Attribute o m apos) [] [] pos) (tMeth C m sp [] E0 ta tNil) := by
  obtain ⟨fd, G, b⟩ := F.ex
  exact pe_meth0 he c F.mt G (hr.mono hjk) b .nil pass0 ht
end
/-- a property that keeps its promise -/
structure Po (P : Program) (w : World) (K : Fr) (mg : Str → Option Value) (base : Heap) (C : Addr) (f : Str) (k : Nat) (sp : Sp) : Prop where
  ex : ∃ p g fd, PropOf K C f p g ∧ FnOk P w K mg base CX0 k g fd ["self"] sp ∧ Binds K fd ["self"] []
theorem pp {X : Cx} {C : Addr} {f : Str} {j k : Nat} {sp : Sp} {e : Expr} {ta : TE} {pos : Pos} (F : Po X.prog X.w X.K X.mg X.base C f j sp) (c : Cls X.K C) (he : PE X e ta) (hr : Room (k + 1) X.A) (hjk : j ≤ k := by first | decide | exact Nat.le_refl _)
    (hab : attributeBase e f X.env (eval e X.env) = eval e X.env := by rfl) : PE X (.Attribute e f pos) (tProp C sp [] E0 ta) := by
  obtain ⟨p, g, fd, hp, G, b⟩ := F.ex
  exact pe_prop he c hp G (hr.mono (Nat.succ_le_succ hjk)) b .nil (pass0 (X := X.nox)) hab
theorem callDictP {X : Cx} (K : Fr) (hc : X.calm = true := by rfl) (hK : X.K = K := by rfl) : CallR X (.type "dict") (fun xs H Q => ∃ (a : Addr) (ps : List Addr) (kvs : List (Key × V)), xs = [.ref a] ∧ SqL K H a (ps.map V.ref) ∧ Paired (fun p kv => SqT K H p [kV kv.1, kv.2]) ps kvs ∧ ∀ p, H p = none → Q (.ref p) (upd H p (.dK (mergeK [] kvs)))) := by subst hK; exact call_dictP hc
/-! ### machines -/
/-- k letters, rows of goals, the start -/
structure Mc where
  k : Nat
  rows : List (List Nat)
  s0 : Nat
structure Mc.Ok (M : Mc) : Prop where
  k1 : 1 ≤ M.k
  k3 : M.k ≤ 3
  n1 : 1 ≤ M.rows.length
  n8 : M.rows.length ≤ 8
  row : ∀ r ∈ M.rows, r.length = M.k ∧ ∀ x ∈ r, x < M.rows.length
  st : M.s0 < M.rows.length
def Mc.stp (M : Mc) (s i : Nat) : Nat := (M.rows.getD s []).getD i 0
def Mc.run (M : Mc) (s : Nat) (w : List Nat) : Nat := w.foldl M.stp s
theorem Mc.Ok.get {M : Mc} (h : M.Ok) {s : Nat} (hs : s < M.rows.length) : M.rows[s]? = some (M.rows.getD s []) := by
  rw [List.getD_eq_getElem?_getD, List.getElem?_eq_getElem hs]
  rfl
theorem Mc.Ok.rowAt {M : Mc} (h : M.Ok) {s i : Nat} (hs : s < M.rows.length) (hi : i < M.k) : (M.rows.getD s [])[i]? = some (M.stp s i) := by
  have hl := (h.row _ (List.mem_of_getElem? (h.get hs))).1
  unfold Mc.stp
  rw [List.getD_eq_getElem?_getD (l := M.rows.getD s []), List.getElem?_eq_getElem (by rw [hl]; exact hi)]
  rfl
theorem Mc.Ok.lt {M : Mc} (h : M.Ok) {s i : Nat} (hs : s < M.rows.length) (hi : i < M.k) : M.stp s i < M.rows.length :=
  (h.row _ (List.mem_of_getElem? (h.get hs))).2 _ (List.mem_of_getElem? (h.rowAt hs hi))
theorem Mc.run_snoc (M : Mc) (s : Nat) (w : List Nat) (i : Nat) : M.run s (w ++ [i]) = M.stp (M.run s w) i := by
  unfold Mc.run
  rw [List.foldl_append]
  rfl
theorem Mc.run_app (M : Mc) (s : Nat) (u v : List Nat) : M.run s (u ++ v) = M.run (M.run s u) v := by
  unfold Mc.run
  rw [List.foldl_append]
theorem Mc.Ok.runlt {M : Mc} (h : M.Ok) : ∀ {w : List Nat} {s : Nat}, s < M.rows.length → (∀ i ∈ w, i < M.k) → M.run s w < M.rows.length
  | [], _, hs, _ => hs
  | i :: w, s, hs, hw => Mc.Ok.runlt h (w := w) (s := M.stp s i) (h.lt hs (hw i List.mem_cons_self)) fun j hj => hw j (List.mem_cons_of_mem _ hj)
/-- the names of the letters -/
def al (M : Mc) : Str := txt (List.range M.k)
def mfs (M : Mc) (b : Addr) : List (Str × V) := [("own_alphabet", .str (al M)), ("own_rows", .ref b), ("own_start", .int (M.s0 : Int))]
/-- v is the machine M -/
def IsM (C : Addr) (H : Hp) (v : V) (M : Mc) : Prop := M.Ok ∧ ∃ a dx b vrs, v = .ref a ∧ H a = some (.ins C dx (mfs M b)) ∧ H b = some (.lst vrs) ∧ TL H vrs M.rows
theorem IsM.same {C : Addr} {H H' : Hp} {v : V} {M : Mc} (s : Same H H') (h : IsM C H v M) : IsM C H' v M := by
  obtain ⟨ok, a, dx, b, vrs, e, h1, h2, h3⟩ := h
  exact ⟨ok, a, dx, b, vrs, e, s _ _ h1, s _ _ h2, h3.same s⟩
/-- the class of machines -/
structure MCl (K : Fr) (C : Addr) : Prop where
  cls : Cls K C
  a1 : NoAttr K C "own_alphabet"
  a2 : NoAttr K C "own_rows"
  a3 : NoAttr K C "own_start"
end Kn
/-! G6 -/
set_option maxHeartbeats 1000000
namespace Kn
open PySem PySem.Spec PyProof.Rows L2
theorem sc_Machine_step : FnScope ["self", "state", "at"] ["self", "state", "at"] (defScope s_Machine_step) := ⟨rfl, rfl, rfl, by decide +kernel, rfl, by decide +kernel, by decide +kernel⟩
theorem sc_Machine_need_state : FnScope ["self", "state"] ["self", "state"] (defScope s_Machine_need_state) := ⟨rfl, rfl, rfl, by decide +kernel, rfl, by decide +kernel, by decide +kernel⟩
theorem sc_Machine_led : FnScope ["self", "state", "word", "letter"] ["self", "state", "word"] (defScope s_Machine_led) := ⟨rfl, rfl, rfl, by decide +kernel, rfl, by decide +kernel, by decide +kernel⟩
theorem sc_Machine_words_to_states : FnScope ["self"] ["self"] (defScope s_Machine_words_to_states) := ⟨rfl, rfl, rfl, by decide +kernel, rfl, by decide +kernel, by decide +kernel⟩
theorem sc_Machine_reachable : FnScope ["self"] ["self"] (defScope s_Machine_reachable) := ⟨rfl, rfl, rfl, by decide +kernel, rfl, by decide +kernel, by decide +kernel⟩
theorem sc_Machine_alphabet : FnScope ["self"] ["self"] (defScope s_Machine_alphabet) := ⟨rfl, rfl, rfl, by decide +kernel, rfl, by decide +kernel, by decide +kernel⟩
def sp_step (C : Addr) : Sp := fun vs H Q _ => ∃ (v : V) (M : Mc) (s i : Nat), vs = [v, .int (s : Int), .int (i : Int)] ∧ IsM C H v M ∧ s < M.rows.length ∧ i < M.k ∧ Q (.int (M.stp s i : Nat)) H
def sp_needst (C : Addr) : Sp := fun vs H Q _ => ∃ (v : V) (M : Mc) (s : Nat), vs = [v, .int (s : Int)] ∧ IsM C H v M ∧ s < M.rows.length ∧ Q .non H
def sp_led (C : Addr) : Sp := fun vs H Q _ => ∃ (v : V) (M : Mc) (s : Nat) (wd : List Nat), vs = [v, .int (s : Int), .str (txt wd)] ∧ IsM C H v M ∧ s < M.rows.length ∧ (∀ i ∈ wd, i < M.k) ∧ wd.length ≤ 1000000 ∧ ∀ H', Same H H' → Q (.int (M.run s wd : Nat)) H'
def sp_alph (C : Addr) : Sp := fun vs H Q _ => ∃ (v : V) (M : Mc), vs = [v] ∧ IsM C H v M ∧ Q (.str (al M)) H
section
variable {P : Program} {w : World} {K : Fr} {mg : Str → Option Value} {base : Heap} {fd : FuncData} {f CM : Addr}
theorem ok_step (F0 : FunD K "step" "Machine.step" (defArgs s_Machine_step) (defBody s_Machine_step) (defScope s_Machine_step) [] [] f fd) (cM : MCl K CM) : FnOk P w K mg base CX0 1 f fd ["self", "state", "at"] (sp_step CM) := by
  refine F0.ok sc_Machine_step (fun vs H Q E h => ?_) (fun cdv A outer s H vs Q E hr h => ?_)
  · obtain ⟨v, M, s, i, rfl, _⟩ := h
    rfl
  · obtain ⟨v, M, st, i, rfl, ⟨ok, a, dx, b, vrs, rfl, h1, h2, h3⟩, hs, hi, q⟩ := h
    refine ⟨_, PSs.nox (pss_one (ps_ret (pe_ix (ixT K) (pe_ix (ixL K) (pe_fld (pv 0) rfl) (pv 1) (fun _ _ => rfl)) (pv 2) (fun _ _ => rfl)))), ?_⟩
    obtain ⟨rv, hrv, ar, rfl, har⟩ := h3.at (ok.get hs)
    exact ⟨_, rfl, a, CM, dx, _, _, rfl, h1, cM.cls, cM.a2, rfl, _, rfl, b, vrs, (st : Int), .ref ar, rfl, rfl, SqL.of h2, atI_nat hrv, _, rfl, ar, _, (i : Int), .int (M.stp st i : Nat), rfl, rfl, SqT.of har, atI_nat (tI_at (ok.rowAt hs hi)), q⟩
theorem ok_needst (F0 : FunD K "need_state" "Machine.need_state" (defArgs s_Machine_need_state) (defBody s_Machine_need_state) (defScope s_Machine_need_state) [] [] f fd) (T : Bt mg) (cM : MCl K CM) (F_is_number : Fo P w K mg base "is_number" ["value", "least", "most"] 1 sp_number) : FnOk P w K mg base CX0 2 f fd ["self", "state"] (sp_needst CM) := by
  refine F0.ok sc_Machine_need_state (fun vs H Q E h => ?_) (fun cdv A outer s H vs Q E hr h => ?_)
  · obtain ⟨v, M, s, rfl, _⟩ := h
    rfl
  · obtain ⟨v, M, st, rfl, ⟨ok, a, dx, b, vrs, rfl, h1, h2, h3⟩, hs, q⟩ := h
    refine ⟨_, PSs.nox (pss_one (ps_if (pt_not (pt_val (pc F_is_number hr (by rfl) (pa_cons (pv 1) (pa_cons pe_int (pa_cons (pe_op op_sub (pe_callB (callLenSeq K) (by rfl) T.len PySem.boot_len (pa_cons (pe_fld (pv 0) rfl) pa_nil)) pe_int) pa_nil)))))) (pss_one ps_never) pss_nil)), ?_⟩
    refine ⟨_, rfl, _, rfl, a, CM, dx, _, _, rfl, h1, cM.cls, cM.a2, rfl, b, vrs, rfl, .inl (SqL.of h2), _, _, rfl, rfl, (st : Int), 0, _, rfl, .inr ⟨_, rfl⟩, _, rfl, ?_⟩
    have e : (decide ((0 : Int) ≤ (st : Int)) && atMost (.int ((vrs.length : Int) - 1)) (st : Int)) = true := by
      rw [decide_eq_true (by omega), Bool.true_and]
      exact decide_eq_true (by rw [h3.1]; omega)
    rw [e]
    exact iteF q
theorem alpha_idx {k i : Nat} (hk : k ≤ 3) (hi : i < k) : ∃ rest, Builtin.Str.occurrences (txt (List.range k)) (txt [i]) 0 (txt (List.range k)).length 1 = i :: rest := by
  match k, i, hk, hi with
  | 1, 0, _, _ => exact ⟨[], by decide +kernel⟩
  | 2, 0, _, _ => exact ⟨[], by decide +kernel⟩
  | 2, 1, _, _ => exact ⟨[], by decide +kernel⟩
  | 3, 0, _, _ => exact ⟨[], by decide +kernel⟩
  | 3, 1, _, _ => exact ⟨[], by decide +kernel⟩
  | 3, 2, _, _ => exact ⟨[], by decide +kernel⟩
theorem ok_led (F0 : FunD K "led" "Machine.led" (defArgs s_Machine_led) (defBody s_Machine_led) (defScope s_Machine_led) [] [] f fd) (T : Bt mg) (cM : MCl K CM) (F_M_need_state : Mo P w K mg base CM "need_state" ["self", "state"] 2 (sp_needst CM)) (F_need_word : Fo P w K mg base "need_word" ["alphabet", "value"] 2 sp_needw) : FnOk P w K mg base CX0 3 f fd ["self", "state", "word"] (sp_led CM) := by
  refine F0.ok sc_Machine_led (fun vs H Q E h => ?_) (fun cdv A outer s H vs Q E hr h => ?_)
  · obtain ⟨v, M, s, wd, rfl, _⟩ := h
    rfl
  · obtain ⟨v, M, st, wd, rfl, hM, hs, hwd, hlen, q⟩ := h
    obtain ⟨ok, a, dx, b, vrs, rfl, h1, h2, h3⟩ := id hM
    refine ⟨_, PSs.nox (pss_cons (ps_expr (pm F_M_need_state cM.cls (pv 0) hr (pa_cons (pv 1) pa_nil)))
  (pss_cons (ps_expr (pc F_need_word hr (by rfl) (pa_cons (pe_fld (pv 0) rfl) (pa_cons (pv 2) pa_nil))))
  (pss_cons (ps_for PassesOwn.never rfl (pi_str (pv 2)) (pg_name (i := 3) sc_Machine_led.nd rfl (Or.inl rfl))
  (pss_one (ps_set (i := 1) sc_Machine_led.nd rfl (Or.inl rfl) (pe_ix (ixT K) (pe_ix (ixL K) (pe_fld (pv 0) rfl) (pv 1) (fun _ _ => rfl)) (pe_bm PySem.F.plainAttrs_str PySem.F.slot_str_index PySem.F.type_str_index mt_sindex (pe_fld (pv 0) rfl) (pa_cons (pv 3) pa_nil)) (fun _ _ => rfl)))))
  (pss_one (ps_ret (pv 1)))))), ?_⟩
    refine ⟨_, rfl, a, dx, _, rfl, h1, rfl, _, rfl, _, M, st, rfl, hM, hs, ?_⟩
    refine ⟨_, rfl, a, CM, dx, _, _, rfl, h1, cM.cls, cM.a1, rfl, _, rfl, M.k, wd, rfl, by have := ok.k3; omega, hwd, hlen, fun H1 sm => ?_⟩
    refine ⟨_, rfl, txt wd, rfl, ?_⟩
    have hz : (txt wd).cps.size = wd.length := txt_len wd
    have W := wk_str (H0 := H) (z := txt wd)
    rw [hz] at W
    refine for_wk W (fun i σ H' => Same H H' ∧ ∃ v3, σ = [some (.ref a), some (.int (M.run st (wd.take i) : Nat)), some (.str (txt wd)), v3]) ⟨sm, none, by simp [Mc.run]; rfl⟩ (fun i σ H h => h.1) ?_ ?_
    · rintro i x σ H2 H3 hi ⟨s2, v3, rfl⟩ s23 ⟨c, hc, rfl⟩
      obtain ⟨rfl, _, hw⟩ := txt_cps hc
      have s3 := s2.trans s23
      have hik : wd.getD i 0 < M.k := hwd _ (List.mem_of_getElem? hw)
      have hlt : M.run st (wd.take i) < M.rows.length := ok.runlt hs fun j hj => hwd j (List.mem_of_mem_take hj)
      obtain ⟨rv, hrv, ar, rfl, har⟩ := h3.at (ok.get hlt)
      obtain ⟨rest, hocc⟩ := alpha_idx ok.k3 hik
      refine ⟨_, rfl, a, CM, dx, _, _, rfl, s3 _ _ h1, cM.cls, cM.a2, rfl, _, rfl, b, vrs, (M.run st (wd.take i) : Nat), .ref ar, rfl, rfl, SqL.of (s3 _ _ h2), atI_nat hrv, _, rfl, a, CM, dx, _, _, rfl, s3 _ _ h1, cM.cls, cM.a1, rfl, rfl, _, rfl, _, _, _, _, rfl, rfl, hocc, ar, _, ((wd.getD i 0 : Nat) : Int), .int (M.stp (M.run st (wd.take i)) (wd.getD i 0) : Nat), rfl, rfl, SqT.of (s3 _ _ har), atI_nat (tI_at (ok.rowAt hlt hik)), s3, some (.str (txt [wd.getD i 0])), ?_⟩
      have e : wd.take (i + 1) = wd.take i ++ [wd.getD i 0] := by rw [List.take_succ, hw]; rfl
      rw [e, Mc.run_snoc]
      rfl
    · rintro σ H2 ⟨s2, v3, rfl⟩
      rw [List.take_length]
      exact ⟨_, rfl, q _ s2⟩
theorem ok_alph (F0 : FunD K "alphabet" "Machine.alphabet" (defArgs s_Machine_alphabet) (defBody s_Machine_alphabet) (defScope s_Machine_alphabet) [] [] f fd) (cM : MCl K CM) : FnOk P w K mg base CX0 1 f fd ["self"] (sp_alph CM) := by
  refine F0.ok sc_Machine_alphabet (fun vs H Q E h => ?_) (fun cdv A outer s H vs Q E hr h => ?_)
  · obtain ⟨v, M, rfl, _⟩ := h
    rfl
  · obtain ⟨v, M, rfl, ⟨ok, a, dx, b, vrs, rfl, h1, h2, h3⟩, q⟩ := h
    refine ⟨_, PSs.nox (pss_one (ps_ret (pe_fld (pv 0) rfl))), ?_⟩
    exact ⟨_, rfl, a, CM, dx, _, _, rfl, h1, cM.cls, cM.a1, rfl, q⟩
end
end Kn
/-! G7 -/
set_option maxHeartbeats 1000000
namespace Kn
open PySem PySem.Spec PyProof.Rows L2
theorem sc_first_words : FnScope ["rows", "starts", "letters", "found", "waiting", "at", "place", "goal", "letter"] ["rows", "starts", "letters"] (defScope s_first_words) := ⟨rfl, rfl, rfl, by decide +kernel, rfl, by decide +kernel, by decide +kernel⟩
/-- the states found so far -/
def iK (rs : List Nat) : List Key := rs.map fun n : Nat => (Sum.inl (n : Int) : Key)
def gI (l : List (Nat × List Nat)) : List (Key × V) := l.map fun p => (Sum.inl (p.1 : Int), V.str (txt p.2))
abbrev fsts (l : List (Nat × List Nat)) : List Nat := l.map (·.1)
theorem gI_keys (l : List (Nat × List Nat)) : (gI l).map (·.1) = iK (fsts l) := by
  unfold gI iK fsts
  rw [List.map_map, List.map_map]
  rfl
theorem gI_len (l : List (Nat × List Nat)) : (gI l).length = l.length := List.length_map _
theorem gI_none {l : List (Nat × List Nat)} {k : Nat} (h : k ∉ fsts l) : valV (gI l) (.inl (k : Int)) = none := by
  induction l with
  | nil => rfl
  | cons p r ih =>
    have h' : ¬ k = p.1 ∧ k ∉ fsts r := by
      have := h
      unfold fsts at this
      rw [List.map_cons, List.mem_cons, not_or] at this
      exact this
    have e : gI (p :: r) = (Sum.inl (p.1 : Int), V.str (txt p.2)) :: gI r := by unfold gI; rw [List.map_cons]
    rw [e, valV_neg (fun z => h'.1 (by have z := Sum.inl.inj z; omega))]
    exact ih h'.2
theorem gI_some {l : List (Nat × List Nat)} {k : Nat} {w : List Nat} (hn : (fsts l).Nodup) (h : (k, w) ∈ l) : valV (gI l) (.inl (k : Int)) = some (.str (txt w)) := by
  induction l with
  | nil => cases h
  | cons p r ih =>
    have e : gI (p :: r) = (Sum.inl (p.1 : Int), V.str (txt p.2)) :: gI r := by unfold gI; rw [List.map_cons]
    unfold fsts at hn
    rw [List.map_cons] at hn
    obtain ⟨h1, h2⟩ := List.nodup_cons.mp hn
    rw [e]
    rcases List.mem_cons.mp h with z | z
    · rw [← z]
      exact valV_pos rfl
    · have hk : k ∈ r.map (·.1) := List.mem_map.mpr ⟨_, z, rfl⟩
      rw [valV_neg (fun q => h1 (by have q := Sum.inl.inj q; have : p.1 = k := by omega
                                    rw [this]; exact hk))]
      exact ih h2 z
theorem gI_put {l : List (Nat × List Nat)} {k : Nat} (w : List Nat) (h : k ∉ fsts l) : putK (gI l) (.inl (k : Int)) (.str (txt w)) = gI (l ++ [(k, w)]) := by
  rw [putK_new _ (gI_none h)]
  unfold gI
  rw [List.map_append]
  rfl
theorem fsts_snoc (l : List (Nat × List Nat)) (k : Nat) (w : List Nat) : fsts (l ++ [(k, w)]) = fsts l ++ [k] := by
  unfold fsts
  rw [List.map_append]
  rfl
/-- the search for states: the first j of them gone through -/
structure Fw (M : Mc) (l : List (Nat × List Nat)) (k : Nat) : Prop where
  le : k ≤ l.length
  nd : (fsts l).Nodup
  st : M.s0 ∈ fsts l
  ok : ∀ p ∈ l, p.1 < M.rows.length ∧ (∀ i ∈ p.2, i < M.k) ∧ M.run M.s0 p.2 = p.1 ∧ p.2.length ≤ l.length
  cl : ∀ (j s : Nat), j < k → (fsts l)[j]? = some s → ∀ i, i < M.k → M.stp s i ∈ fsts l
theorem Fw.few {M : Mc} {l : List (Nat × List Nat)} {k : Nat} (h : Fw M l k) (ok : M.Ok) : l.length ≤ 8 := by
  have := len_sub (m := List.range M.rows.length) h.nd fun s hs => by
    obtain ⟨p, hp, rfl⟩ := List.mem_map.mp hs
    exact List.mem_range.mpr (h.ok p hp).1
  rw [List.length_range, List.length_map] at this
  have := ok.n8
  omega
theorem Fw.more {M : Mc} {l : List (Nat × List Nat)} {k x : Nat} {w : List Nat} (h : Fw M l k) (hx : x ∉ fsts l) (h1 : x < M.rows.length) (h2 : ∀ i ∈ w, i < M.k) (h3 : M.run M.s0 w = x) (h4 : w.length ≤ l.length + 1) : Fw M (l ++ [(x, w)]) k := by
  have hl : (l ++ [(x, w)]).length = l.length + 1 := by rw [List.length_append]; rfl
  refine ⟨by rw [hl]; exact Nat.le_succ_of_le h.le, by rw [fsts_snoc]; exact nd_snoc h.nd hx, by rw [fsts_snoc]; exact List.mem_append_left _ h.st, fun p hp => ?_, fun j s hj hs i hi => ?_⟩
  · rcases List.mem_append.mp hp with q | q
    · obtain ⟨a, b, c, d⟩ := h.ok p q
      exact ⟨a, b, c, by omega⟩
    · rw [List.mem_singleton.mp q]
      exact ⟨h1, h2, h3, by rw [hl]; exact h4⟩
  · rw [fsts_snoc] at hs ⊢
    have hj' : j < (fsts l).length := by
      have := h.le
      rw [List.length_map]
      omega
    rw [List.getElem?_append_left hj'] at hs
    exact List.mem_append_left _ (h.cl j s hj hs i hi)
/-- what is reached -/
structure Rc (M : Mc) (rs : List Nat) : Prop where
  nd : rs.Nodup
  st : M.s0 ∈ rs
  lt : ∀ s ∈ rs, s < M.rows.length
  cl : ∀ s ∈ rs, ∀ i, i < M.k → M.stp s i ∈ rs
  wd : ∀ s ∈ rs, ∃ w : List Nat, (∀ i ∈ w, i < M.k) ∧ M.run M.s0 w = s
def sp_fw : Sp := fun vs H Q _ => ∃ (b c : Addr) (M : Mc) (vrs : List V), vs = [.ref b, .ref c, .str (al M)] ∧ M.Ok ∧ H b = some (.lst vrs) ∧ TL H vrs M.rows ∧ H c = some (.lst [.int (M.s0 : Int)]) ∧
  ∀ H' d kvs rs, H d = none → Same H H' → H' d = some (.dK kvs) → kvs.map (·.1) = iK rs → Rc M rs → Q (.ref d) H'
section
variable {P : Program} {w : World} {K : Fr} {mg : Str → Option Value} {base : Heap} {fd : FuncData} {f CM : Addr}
theorem ok_fw (F0 : FnP K "first_words" s_first_words f fd) (T : Bt mg) : FnOk P w K mg base CX0 1 f fd ["rows", "starts", "letters"] sp_fw := by
  refine F0.ok sc_first_words (fun vs H Q E h => ?_) (fun cdv A outer s H vs Q E hr h => ?_)
  · obtain ⟨b, c, M, vrs, rfl, _⟩ := h
    rfl
  · obtain ⟨b, c, M, vrs, rfl, ok, hb, htl, hc, q⟩ := h
    refine ⟨_, PSs.nox (pss_cons (ps_set (i := 3) sc_first_words.nd rfl (Or.inl rfl) (pe_callTy (callDictP K) (by rfl) T.dict (by decide +kernel) (pa_cons (pe_lc (own := [("place", 6)]) (g := gName 6) (tt := tYes) rfl sc_first_words.nd (piL K (pv 1))
  (blkOk_by (N := ["rows", "starts", "letters", "found", "waiting", "at", "place", "goal", "letter"]) (sc := defScope s_first_words) (by decide +kernel)) (fun _ _ _ _ _ => pg_name (i := 6) sc_first_words.nd rfl (Or.inl rfl)) (fun _ _ _ _ _ => pts_nil) (fun _ _ _ _ _ => (pe_tup (pa_cons (pv 6) (pa_cons pe_str pa_nil))))) pa_nil)))
  (pss_cons (ps_set (i := 4) sc_first_words.nd rfl (Or.inl rfl) (pe_callTy (callListOf K) (by rfl) T.list (by decide +kernel) (pa_cons (pv 1) pa_nil)))
  (pss_cons (ps_set (i := 5) sc_first_words.nd rfl (Or.inl rfl) pe_int)
  (pss_cons (ps_while PassesOwn.never (pt_cmpR op_lt (pv 5) (pe_callB (callLenSeq K) (by rfl) T.len PySem.boot_len (pa_cons (pv 4) pa_nil)) (nomark _)) (pss_cons (ps_set (i := 6) sc_first_words.nd rfl (Or.inl rfl) (pe_ix (ixL K) (pv 4) (pv 5) (fun _ _ => rfl)))
  (pss_cons (ps_set (i := 5) sc_first_words.nd rfl (Or.inl rfl) (pe_op op_add (pv 5) pe_int))
  (pss_one (ps_for PassesOwn.never rfl (pi_zipG (by rfl) T.zip (pa_cons (pe_ix (ixL K) (pv 0) (pv 6) (fun _ _ => rfl)) (pa_cons (pv 2) pa_nil))) (pg_tupK K rfl (pgs_cons (pg_name (i := 7) sc_first_words.nd rfl (Or.inl rfl)) (pgs_cons (pg_name (i := 8) sc_first_words.nd rfl (Or.inl rfl)) pgs_nil)))
  (pss_one (ps_if (pt_cmp (pc_dnotin (hu_of hr) (pv 7) (pv 3))) (pss_cons (ps_dput (hu_of hr) (pv 3) (pv 7) (pe_op op_add_str (pe_dget (hu_of hr) (pv 3) (pv 6) (fun _ _ => rfl)) (pv 8)) rfl)
  (pss_one (ps_expr (pe_bm PySem.F.plainAttrs_list PySem.F.slot_list_append PySem.F.type_list_append mt_append (pv 4) (pa_cons (pv 7) pa_nil))))) pss_nil)))))))
  (pss_one (ps_ret (pv 3))))))), ?_⟩
    -- found = dict([(place, '') for place in starts])
    refine ⟨_, rfl, c, rfl, ⟨_, SqL.of hc⟩, fun D hD => ?_⟩
    refine lc_map (wk_lst (K := K) (SqL.of hc)) hD (by show 1 ≤ _; decide) (fun i σ2 _ => σ2 = [some (.ref b), some (.ref c), some (.str (al M)), none, none, none, some (.int (M.s0 : Int)), none, none]) (fun i y H' => ∃ p, y = .ref p ∧ H' p = some (.tup [.int (M.s0 : Int), .str (txt [])])) ?_ ?_ ?_ ?_
    · rintro i y H2 H3 _ t ⟨p, rfl, h⟩
      exact ⟨p, rfl, t.1 _ _ h⟩
    · rintro i y H' Q' hi sm hy k
      match i, hi, hy with
      | 0, _, hy =>
        cases hy
        exact k _ rfl rfl
    · rintro i σ2 H' hi sm rfl Q' q'
      exact ⟨_, rfl, szl (by show 2 ≤ 1000000; decide), fun p np => q' _ _ (same_upd np) ⟨p, rfl, upd_same⟩⟩
    intro ys H1 sm hDl hlen hr
    obtain ⟨y, rfl⟩ : ∃ y, ys = [y] := by
      match ys, hlen with
      | [y], _ => exact ⟨y, rfl⟩
    obtain ⟨p0, rfl, hp0⟩ := hr 0 y rfl
    refine ⟨D, [p0], [(.inl (M.s0 : Int), .str (txt []))], rfl, SqL.of hDl, .cons (SqT.of hp0) .nil, fun d hd => ?_⟩
    have s1 : Same H (upd H1 d (.dK (gI [(M.s0, [])]))) := sm.trans (same_upd hd)
    have hdH := sm.free hd
    -- waiting = list(starts)
    refine ⟨_, rfl, c, _, rfl, .inl (SqL.of (s1 _ _ hc)), fun q1 hq1 => ?_⟩
    have hq1H := s1.free hq1
    have hdq : d ≠ q1 := fun e => by rw [← e] at hq1; exact absurd (hq1.symm.trans upd_same) (fun z => nomatch z)
    -- while at < len(waiting)
    refine ⟨fun m σ H' => ∃ l k v6 v7 v8, σ = [some (.ref b), some (.ref c), some (.str (al M)), some (.ref d), some (.ref q1), some (.int ((k : Nat) : Int)), v6, v7, v8] ∧ m = 8 - k ∧ Same H H' ∧ H' d = some (.dK (gI l)) ∧ H' q1 = some (.lst (tI (fsts l))) ∧ Fw M l k,
      ⟨8, [(M.s0, [])], 0, none, none, none, rfl, rfl, s1.trans (same_upd hq1), by rw [upd_ne hdq]; exact upd_same, upd_same, ⟨Nat.zero_le _, by simp [fsts], List.mem_singleton.mpr rfl, fun p hp => ?_, fun j s hj => absurd hj (Nat.not_lt_zero _)⟩⟩, ?_⟩
    · rw [List.mem_singleton.mp hp]
      exact ⟨ok.st, fun i hi => (List.not_mem_nil hi).elim, rfl, Nat.zero_le _⟩
    rintro m σ H4 ⟨l, k, v6, v7, v8, rfl, rfl, sm4, h4d, h4q, hF⟩
    have hfew := hF.few ok
    refine ⟨_, rfl, _, rfl, q1, _, rfl, .inl (SqL.of h4q), _, _, rfl, rfl, _, rfl, ?_⟩
    refine ite2 (fun hlt => ?_) (fun hge => ?_)
    · have hkl : k < l.length := by
        have := of_decide_eq_true hlt
        rw [tI_len, List.length_map] at this
        omega
      obtain ⟨pl, hpl⟩ : ∃ pl, l[k]? = some pl := ⟨_, List.getElem?_eq_getElem hkl⟩
      obtain ⟨hp1, hp2, hp3, hp4⟩ := hF.ok pl (List.mem_of_getElem? hpl)
      have hfk : (fsts l)[k]? = some pl.1 := by unfold fsts; rw [List.getElem?_map, hpl]; rfl
      obtain ⟨rv, hrv, ar, rfl, har⟩ := htl.at (ok.get hp1)
      refine ⟨fun σ' H' => ∃ m', m' < 8 - k ∧ ∃ l k v6 v7 v8, σ' = [some (.ref b), some (.ref c), some (.str (al M)), some (.ref d), some (.ref q1), some (.int ((k : Nat) : Int)), v6, v7, v8] ∧ m' = 8 - k ∧ Same H H' ∧ H' d = some (.dK (gI l)) ∧ H' q1 = some (.lst (tI (fsts l))) ∧ Fw M l k, fun σ' H' h => h, ?_⟩
      refine ⟨_, rfl, _, rfl, q1, _, (k : Int), .int (pl.1 : Int), rfl, rfl, SqL.of h4q, atI_nat (tI_at hfk), ?_⟩
      refine ⟨_, rfl, _, _, rfl, rfl, ?_⟩
      refine ⟨_, rfl, _, rfl, b, vrs, (pl.1 : Int), .ref ar, rfl, rfl, SqL.of (sm4 _ _ hb), atI_nat hrv, _, rfl, _, _, _, _, _, _, rfl, .tup ar _, .txt (al M), sm4 _ _ har, trivial, ?_⟩
      have W := wk_zip (H0 := H) (.tup ar (tI (M.rows.getD pl.1 []))) (.txt (al M)) har trivial
      have hrow := ok.row _ (List.mem_of_getElem? (ok.get hp1))
      have hn : min (tI (M.rows.getD pl.1 [])).length (signs (al M)).length = M.k := by
        unfold al
        rw [tI_len, signs_txt, List.length_map, List.length_range, hrow.1, Nat.min_self]
      rw [hn] at W
      refine for_wk W (fun i σ H' => Same H H' ∧ ∃ l' v7 v8, σ = [some (.ref b), some (.ref c), some (.str (al M)), some (.ref d), some (.ref q1), some (.int ((k : Int) + 1)), some (.int (pl.1 : Int)), v7, v8] ∧ H' d = some (.dK (gI l')) ∧ H' q1 = some (.lst (tI (fsts l'))) ∧ Fw M l' k ∧ l'[k]? = some pl ∧ ∀ j, j < i → M.stp pl.1 j ∈ fsts l')
        ⟨sm4, l, v7, v8, rfl, h4d, h4q, hF, hpl, fun j hj => absurd hj (Nat.not_lt_zero _)⟩ (fun i σ H h => h.1) ?_ ?_
      · rintro i x σ H5 H6 hi ⟨sm5, l', v7, v8, rfl, h5d, h5q, hF', hpl', hdone⟩ s56 ⟨T, x1, y1, rfl, hT, hx1, hy1⟩
        have hx1 : x1 = .int (M.stp pl.1 i : Nat) := by
          rw [tI_at (ok.rowAt hp1 hi)] at hx1
          exact (Option.some.inj hx1).symm
        have hy1 : y1 = .str (txt [i]) := by
          unfold al at hy1
          rw [signs_txt] at hy1
          obtain ⟨rfl, _⟩ := get_of hy1
          rw [range_getD hi]
        subst hx1 hy1
        have sm6 := sm5.trans s56
        have h6d := s56 _ _ h5d
        have h6q := s56 _ _ h5q
        have hfew' := hF'.few ok
        obtain ⟨_, hq2, hq3, hq4⟩ := hF'.ok pl (List.mem_of_getElem? hpl')
        refine ⟨T, _, rfl, SqT.of hT, rfl, _, _, rfl, _, _, rfl, rfl, ?_⟩
        refine ⟨_, rfl, _, rfl, d, _, rfl, DGet.k (k := .inl ((M.stp pl.1 i : Nat) : Int)) h6d, _, rfl, ?_⟩
        refine ite2 (fun hnew => ?_) (fun hold => ?_)
        · have hnk : M.stp pl.1 i ∉ fsts l' := fun hin => by
            obtain ⟨p', hp', e'⟩ := List.mem_map.mp hin
            have e'' : (M.stp pl.1 i, p'.2) ∈ l' := by rw [← e']; exact hp'
            rw [gI_some hF'.nd e''] at hnew
            cases hnew
          have hval : valV (gI l') (.inl (pl.1 : Int)) = some (.str (txt pl.2)) := gI_some hF'.nd (List.mem_of_getElem? hpl')
          refine ⟨_, rfl, _, rfl, d, .str (txt pl.2), rfl, by rw [← hval]; exact DGet.k (k := .inl (pl.1 : Int)) h6d, _, rfl, txt pl.2, txt [i], rfl, rfl, szl (by rw [txt_len, txt_len]; show pl.2.length + 1 ≤ _; omega), ?_⟩
          rw [txt_app]
          refine ⟨_, rfl, _, rfl, d, _, rfl, DPut.k (k := .inl ((M.stp pl.1 i : Nat) : Int)) h6d (szl' (by rw [gI_len]; omega)), ?_⟩
          rw [gI_put _ hnk]
          have hq7 : (upd H6 d (.dK (gI (l' ++ [(M.stp pl.1 i, pl.2 ++ [i])])))) q1 = some (.lst (tI (fsts l'))) := by rw [upd_ne hdq.symm]; exact h6q
          refine ⟨.ref q1, rfl, .inl ⟨rfl, _, SqL.of hq7⟩, _, rfl, q1, _, _, rfl, rfl, hq7, szl' (by rw [tI_len, List.length_map]; omega), ?_⟩
          refine ⟨(sm6.upd' hdH).upd' hq1H, l' ++ [(M.stp pl.1 i, pl.2 ++ [i])], _, _, rfl, by rw [upd_ne hdq, upd_same], ?_, hF'.more hnk (ok.lt hp1 hi) (fun z hz => ?_) (by rw [Mc.run_snoc, hq3]) (by rw [List.length_append]; show pl.2.length + 1 ≤ _; omega), by rw [List.getElem?_append_left (by have := (List.getElem?_eq_some_iff.mp hpl').1; exact this)]; exact hpl', fun j hj => ?_⟩
          · rw [upd_same, fsts_snoc]
            unfold tI
            rw [List.map_append]
            rfl
          · rcases List.mem_append.mp hz with h | h
            · exact hq2 z h
            · rw [List.mem_singleton.mp h]; exact hi
          · rw [fsts_snoc]
            rcases Nat.lt_or_ge j i with h | h
            · exact List.mem_append_left _ (hdone j h)
            · have : j = i := by omega
              subst this
              exact List.mem_append_right _ (List.mem_singleton.mpr rfl)
        · have hin : M.stp pl.1 i ∈ fsts l' := by
            by_cases hin : M.stp pl.1 i ∈ fsts l'
            · exact hin
            · exact absurd (by rw [gI_none hin]; rfl) hold
          refine ⟨sm6, l', _, _, rfl, h6d, h6q, hF', hpl', fun j hj => ?_⟩
          rcases Nat.lt_or_ge j i with h | h
          · exact hdone j h
          · have : j = i := by omega
            subst this
            exact hin
      · rintro σ H5 ⟨sm5, l', v7, v8, rfl, h5d, h5q, hF', hpl', hdone⟩
        refine ⟨8 - (k + 1), by omega, l', k + 1, _, _, _, rfl, rfl, sm5, h5d, h5q, (List.getElem?_eq_some_iff.mp hpl').1, hF'.nd, hF'.st, hF'.ok, fun j s hj hs i hi => ?_⟩
        rcases Nat.lt_or_ge j k with h | h
        · exact hF'.cl j s h hs i hi
        · have : j = k := by omega
          subst this
          have e : (fsts l')[j]? = some pl.1 := by unfold fsts; rw [List.getElem?_map, hpl']; rfl
          rw [e] at hs
          cases hs
          exact hdone i hi
    · have hkl : k = l.length := by
        have h1 := hF.le
        have h2 : ¬ ((k : Int) < ((tI (fsts l)).length : Int)) := fun z => hge (decide_eq_true z)
        rw [tI_len, List.length_map] at h2
        omega
      refine ⟨_, rfl, q H4 d (gI l) (fsts l) hdH sm4 h4d (gI_keys l) ⟨hF.nd, hF.st, fun s hs => ?_, fun s hs i hi => ?_, fun s hs => ?_⟩⟩
      · obtain ⟨p, hp, rfl⟩ := List.mem_map.mp hs
        exact (hF.ok p hp).1
      · obtain ⟨j, hj, e⟩ := List.getElem_of_mem hs
        rw [List.length_map] at hj
        exact hF.cl j s (by omega) (by rw [List.getElem?_eq_getElem (by rw [List.length_map]; exact hj), e]) i hi
      · obtain ⟨p, hp, rfl⟩ := List.mem_map.mp hs
        exact ⟨p.2, (hF.ok p hp).2.1, (hF.ok p hp).2.2.1⟩
end
end Kn
/-! G8 -/
set_option maxHeartbeats 1000000
namespace Kn
open PySem PySem.Spec PyProof.Rows L2
theorem sc_is_row : FnScope ["value", "width", "many", "state"] ["value", "width", "many"] (defScope s_is_row) := ⟨rfl, rfl, rfl, by decide +kernel, rfl, by decide +kernel, by decide +kernel⟩
theorem sc_Machine___init__ : FnScope ["self", "alphabet", "rows", "start", "at", "row"] ["self", "alphabet", "rows", "start"] (defScope s_Machine___init__) := ⟨rfl, rfl, rfl, by decide +kernel, rfl, by decide +kernel, by decide +kernel⟩
def sp_wts (C : Addr) : Sp := fun vs H Q _ => ∃ (v : V) (M : Mc), vs = [v] ∧ IsM C H v M ∧ ∀ H' d kvs rs, H d = none → Same H H' → H' d = some (.dK kvs) → kvs.map (·.1) = iK rs → Rc M rs → Q (.ref d) H'
/-- what is reached, ascending -/
structure Rch (M : Mc) (rs : List Nat) : Prop where
  rc : Rc M rs
  asc : rs.Pairwise (· < ·)
def sp_reach (C : Addr) : Sp := fun vs H Q _ => ∃ (v : V) (M : Mc), vs = [v] ∧ IsM C H v M ∧ ∀ H' b rs, H b = none → Same H H' → H' b = some (.lst (tI rs)) → Rch M rs → Q (.ref b) H'
theorem Rc.sub {M : Mc} {rs rs' : List Nat} (h : Rc M rs) (h' : Rc M rs') : ∀ s ∈ rs, s ∈ rs' := by
  have key : ∀ (w : List Nat) (s : Nat), s ∈ rs' → (∀ i ∈ w, i < M.k) → M.run s w ∈ rs' := by
    intro w
    induction w with
    | nil => exact fun s hs _ => hs
    | cons i w ih => exact fun s hs hw => ih _ (h'.cl s hs i (hw i List.mem_cons_self)) fun j hj => hw j (List.mem_cons_of_mem _ hj)
  intro s hs
  obtain ⟨w, h1, h2⟩ := h.wd s hs
  rw [← h2]
  exact key w _ h'.st h1
theorem asc_uniq : ∀ {l m : List Nat}, l.Pairwise (· < ·) → m.Pairwise (· < ·) → (∀ x, x ∈ l ↔ x ∈ m) → l = m
  | [], [], _, _, _ => rfl
  | [], y :: m, _, _, h => absurd ((h y).mpr List.mem_cons_self) (List.not_mem_nil)
  | x :: l, [], _, _, h => absurd ((h x).mp List.mem_cons_self) (List.not_mem_nil)
  | x :: l, y :: m, hl, hm, h => by
    obtain ⟨h1, h2⟩ := List.pairwise_cons.mp hl
    obtain ⟨h3, h4⟩ := List.pairwise_cons.mp hm
    have hxy : x = y := by
      rcases List.mem_cons.mp ((h x).mp List.mem_cons_self) with e | e
      · exact e
      · rcases List.mem_cons.mp ((h y).mpr List.mem_cons_self) with e' | e'
        · exact e'.symm
        · have := h1 y e'
          have := h3 x e
          omega
    subst hxy
    rw [asc_uniq h2 h4 fun z => ?_]
    constructor
    · intro hz
      rcases List.mem_cons.mp ((h z).mp (List.mem_cons_of_mem _ hz)) with e | e
      · exact absurd (h1 z hz) (by omega)
      · exact e
    · intro hz
      rcases List.mem_cons.mp ((h z).mpr (List.mem_cons_of_mem _ hz)) with e | e
      · exact absurd (h3 z hz) (by omega)
      · exact e
theorem Rch.uniq {M : Mc} {rs rs' : List Nat} (h : Rch M rs) (h' : Rch M rs') : rs = rs' := asc_uniq h.asc h'.asc fun x => ⟨h.rc.sub h'.rc x, h'.rc.sub h.rc x⟩
theorem nd_asc {l : List Nat} (h : l.Pairwise (· ≤ ·)) (hn : l.Nodup) : l.Pairwise (· < ·) := by
  unfold List.Nodup at hn
  exact (h.and hn).imp fun {a b} ⟨h1, h2⟩ => by omega
/-- sorted ints that were small numbers -/
theorem ints_perm {ys : List Int} {rs : List Nat} (hp : ys.Perm (rs.map fun n : Nat => (n : Int))) : ∃ ns : List Nat, ys = ns.map (fun n : Nat => (n : Int)) ∧ ns.Perm rs := by
  refine ⟨ys.map Int.toNat, ?_, ?_⟩
  · rw [List.map_map]
    have : ys.map ((fun n : Nat => (n : Int)) ∘ Int.toNat) = ys.map id := List.map_congr_left fun y hy => by
      obtain ⟨n, _, rfl⟩ := List.mem_map.mp (hp.mem_iff.mp hy)
      rfl
    rw [this, List.map_id]
  · have h := hp.map Int.toNat
    rw [List.map_map] at h
    have : rs.map (Int.toNat ∘ fun n : Nat => (n : Int)) = rs.map id := List.map_congr_left fun y _ => rfl
    rw [this, List.map_id] at h
    exact h
section
variable {P : Program} {w : World} {K : Fr} {mg : Str → Option Value} {base : Heap} {fd : FuncData} {f CM : Addr}
theorem ok_wts (F0 : FunD K "words_to_states" "Machine.words_to_states" (defArgs s_Machine_words_to_states) (defBody s_Machine_words_to_states) (defScope s_Machine_words_to_states) [] [] f fd) (cM : MCl K CM) (F_first_words : Fo P w K mg base "first_words" ["rows", "starts", "letters"] 1 sp_fw) : FnOk P w K mg base CX0 2 f fd ["self"] (sp_wts CM) := by
  refine F0.ok sc_Machine_words_to_states (fun vs H Q E h => ?_) (fun cdv A outer s H vs Q E hr h => ?_)
  · obtain ⟨v, M, rfl, _⟩ := h
    rfl
  · obtain ⟨v, M, rfl, ⟨ok, a, dx, b, vrs, rfl, h1, h2, h3⟩, q⟩ := h
    refine ⟨_, PSs.nox (pss_one (ps_ret (pc F_first_words hr (by rfl) (pa_cons (pe_fld (pv 0) rfl) (pa_cons (pe_lst (pa_cons (pe_fld (pv 0) rfl) pa_nil)) (pa_cons (pe_fld (pv 0) rfl) pa_nil)))))), ?_⟩
    refine ⟨_, rfl, a, CM, dx, _, _, rfl, h1, cM.cls, cM.a2, rfl, _, rfl, a, CM, dx, _, _, rfl, h1, cM.cls, cM.a3, rfl, szl (by show 1 ≤ 1000000; decide), fun c nc => ?_⟩
    have s1 := same_upd (o := .lst [.int (M.s0 : Int)]) nc
    refine ⟨_, rfl, a, CM, dx, _, _, rfl, s1 _ _ h1, cM.cls, cM.a1, rfl, b, c, M, vrs, rfl, ok, s1 _ _ h2, h3.same s1, upd_same, fun H' d kvs rs nd sm hd hk hR => q H' d kvs rs (s1.free nd) (s1.trans sm) hd hk hR⟩
theorem ok_reach (F0 : FunD K "reachable" "Machine.reachable" (defArgs s_Machine_reachable) (defBody s_Machine_reachable) (defScope s_Machine_reachable) [] [] f fd) (T : Bt mg) (cM : MCl K CM) (F_M_words_to_states : Mo P w K mg base CM "words_to_states" ["self"] 2 (sp_wts CM)) : FnOk P w K mg base CX0 3 f fd ["self"] (sp_reach CM) := by
  refine F0.ok sc_Machine_reachable (fun vs H Q E h => ?_) (fun cdv A outer s H vs Q E hr h => ?_)
  · obtain ⟨v, M, rfl, _⟩ := h
    rfl
  · obtain ⟨v, M, rfl, hM, q⟩ := h
    obtain ⟨ok, a, dx, b, vrs, rfl, h1, h2, h3⟩ := id hM
    refine ⟨_, PSs.nox (pss_one (ps_ret (pe_callB (call_sortedDI rfl) (by rfl) T.sorted PyProof.Rows.Boot.«sorted» (pa_cons (pm0 F_M_words_to_states cM.cls (pv 0) hr) pa_nil)))), ?_⟩
    refine ⟨_, rfl, a, dx, _, rfl, h1, rfl, _, M, rfl, hM, fun H' d kvs rs nd sm hd hk hR => ?_⟩
    have hlen : rs.length ≤ 8 := by
      have := len_sub (m := List.range M.rows.length) hR.nd fun s hs => List.mem_range.mpr (hR.lt s hs)
      rw [List.length_range] at this
      have := ok.n8
      omega
    refine ⟨d, kvs, rs.map (fun n : Nat => (n : Int)), rfl, .inl hd, by rw [hk]; unfold iK; rw [List.map_map]; rfl, by rw [List.length_map]; omega, fun ys p hp hs np => ?_⟩
    obtain ⟨ns, rfl, hns⟩ := ints_perm hp
    have hasc : ns.Pairwise (· < ·) := nd_asc (by rw [List.pairwise_map] at hs; exact hs.imp fun {a b} h => by omega) (hns.nodup_iff.mpr hR.nd)
    have e : (ns.map (fun n : Nat => (n : Int))).map V.int = tI ns := by unfold tI; rw [List.map_map]; rfl
    rw [e]
    refine q _ p ns (sm.free np) (sm.trans (same_upd np)) upd_same ⟨⟨hns.nodup_iff.mpr hR.nd, hns.mem_iff.mpr hR.st, fun s hs => hR.lt s (hns.mem_iff.mp hs), fun s hs i hi => hns.mem_iff.mpr (hR.cl s (hns.mem_iff.mp hs) i hi), fun s hs => hR.wd s (hns.mem_iff.mp hs)⟩, hasc⟩
def sp_isrow : Sp := fun vs H Q _ => ∃ (a : Addr) (r : List Nat) (k m : Nat), vs = [.ref a, .int (k : Int), .int (m : Int)] ∧ H a = some (.tup (tI r)) ∧ r.length = k ∧ k ≤ 1000 ∧ (∀ x ∈ r, x < m) ∧ ∀ H', Same H H' → Q (.bl true) H'
theorem ok_isrow (F0 : FnP K "is_row" s_is_row f fd) (T : Bt mg) (F_is_number : Fo P w K mg base "is_number" ["value", "least", "most"] 1 sp_number) : FnOk P w K mg base CX0 2 f fd ["value", "width", "many"] sp_isrow := by
  refine F0.ok sc_is_row (fun vs H Q E h => ?_) (fun cdv A outer s H vs Q E hr h => ?_)
  · obtain ⟨a, r, k, m, rfl, _⟩ := h
    rfl
  · obtain ⟨a, r, k, m, rfl, ha, hk, hk1, hlt, q⟩ := h
    refine ⟨_, PSs.nox (pss_one (ps_ret (pe_and (pe_callB (callIsi K) (by rfl) T.isinstance (by decide +kernel) (pa_cons (pv 0) (pa_cons (pe_bltn (v := .ty "tuple") (by rfl) T.tuple (by decide +kernel) rfl) pa_nil))) (pe_and (pe_cmpR op_eq (pe_callB (callLenSeq K) (by rfl) T.len PySem.boot_len (pa_cons (pv 0) pa_nil)) (pv 1) (nomark _)) (pe_one (pe_callB (crAll K) (by rfl) T.all (by decide +kernel) (pa_cons (pe_lc (own := [("state", 3)]) (g := gName 3) (tt := tYes) rfl sc_is_row.nd (piT K (pv 0))
  (blkOk_by (N := ["value", "width", "many", "state"]) (sc := defScope s_is_row) (by decide +kernel)) (fun _ _ _ _ _ => pg_name (i := 3) sc_is_row.nd rfl (Or.inl rfl)) (fun _ _ _ _ _ => pts_nil) (fun _ _ _ _ _ => (pc F_is_number hr (by rfl) (pa_cons (pv 3) (pa_cons pe_int (pa_cons (pe_op op_sub (pv 2) pe_int) pa_nil)))))) pa_nil))))))), ?_⟩
    refine ⟨_, rfl, _, _, _, _, _, rfl, .ty _, tyT ha, kit_ty k_tt, true, rfl, iteT ?_⟩
    refine ⟨_, rfl, a, _, rfl, .inr (SqT.of ha), _, rfl, rfl, true, by rw [decide_eq_true (by rw [tI_len, hk])], iteT ?_⟩
    refine ⟨_, rfl, a, rfl, ⟨_, SqT.of ha⟩, fun D hD => ?_⟩
    refine lc_bools (fun _ => true) (wk_tup (SqT.of ha)) hD (by rw [tI_len]; omega) (fun i σ2 _ => ∃ x : Nat, x < m ∧ σ2 = [some (.ref a), some (.int (k : Int)), some (.int (m : Int)), some (.int (x : Int))]) (fun i x H' Q' hi sm hx kk => ?_) ?_ ?_
    · obtain ⟨y, hy, rfl⟩ := tI_get hx
      exact kk _ rfl ⟨y, hlt y (List.mem_of_getElem? hy), rfl⟩
    · rintro i σ2 H' hi sm ⟨x, hx, rfl⟩ Q' q'
      refine ⟨_, rfl, _, rfl, _, _, rfl, rfl, (x : Int), 0, _, rfl, .inr ⟨_, rfl⟩, q' _ _ (Same.refl _) ?_⟩
      show V.bl _ = V.bl true
      congr 1
      rw [decide_eq_true (by omega), Bool.true_and]
      exact decide_eq_true (by omega)
    · intro H' sm hl
      refine ⟨D, _, rfl, SqL.of hl, ?_⟩
      rw [all_true]
      exact q _ sm
def sp_minit (C : Addr) : Sp := fun vs H Q _ => ∃ (x dx r : Addr) (M : Mc) (vrs : List V), vs = [.ref x, .str (al M), .ref r, .int (M.s0 : Int)] ∧ M.Ok ∧ H x = some (.ins C dx []) ∧ H r = some (.lst vrs) ∧ TL H vrs M.rows ∧
  ∀ H' b, (∀ c o, c ≠ x → H c = some o → H' c = some o) → H' x = some (.ins C dx (mfs M b)) → H' b = some (.lst vrs) → Q .non H'
theorem ok_minit (F0 : FunD K "__init__" "Machine.__init__" (defArgs s_Machine___init__) (defBody s_Machine___init__) (defScope s_Machine___init__) [] [("start", .int 0)] f fd) (T : Bt mg) (Cn : Ct mg) (cM : MCl K CM) (F_need_alphabet : Fo P w K mg base "need_alphabet" ["value"] 3 sp_needal) (F_is_row : Fo P w K mg base "is_row" ["value", "width", "many"] 2 sp_isrow) (F_is_number : Fo P w K mg base "is_number" ["value", "least", "most"] 1 sp_number) : FnOk P w K mg base CX0 4 f fd ["self", "alphabet", "rows", "start"] (sp_minit CM) := by
  refine F0.ok sc_Machine___init__ (fun vs H Q E h => ?_) (fun cdv A outer s H vs Q E hr h => ?_)
  · obtain ⟨x, dx, r, M, vrs, rfl, _⟩ := h
    rfl
  · obtain ⟨x, dx, r, M, vrs, rfl, ok, hx, hr1, htl, q⟩ := h
    refine ⟨_, PSs.nox (pss_cons (ps_expr (pc F_need_alphabet hr (by rfl) (pa_cons (pv 1) pa_nil)))
  (pss_cons (ps_if (PW.pt (pw_or (pt_not (pt_val (pe_callB (callIsiT K) (by rfl) T.isinstance (by decide +kernel) (pa_cons (pv 2) (pa_cons (pe_tup (pa_cons (pe_bltn (v := .ty "list") (by rfl) T.list (by decide +kernel) rfl) (pa_cons (pe_bltn (v := .ty "tuple") (by rfl) T.tuple (by decide +kernel) rfl) pa_nil))) pa_nil))))) (pw_or1 (pt_cmpR op_eq (pe_callB (callLenSeq K) (by rfl) T.len PySem.boot_len (pa_cons (pv 2) pa_nil)) pe_int (nomark _))))) (pss_one ps_never) pss_nil)
  (pss_cons (ps_if (pt_cmpR op_gt (pe_callB (callLenSeq K) (by rfl) T.len PySem.boot_len (pa_cons (pv 2) pa_nil)) (pe_globE Cn.MOST_STATES (by rfl)) (nomark _)) (pss_one ps_never) pss_nil)
  (pss_cons (ps_for PassesOwn.never rfl (pi_enumG (by rfl) T.enumerate (pa_cons (pv 2) pa_nil)) (pg_tupK K rfl (pgs_cons (pg_name (i := 4) sc_Machine___init__.nd rfl (Or.inl rfl)) (pgs_cons (pg_name (i := 5) sc_Machine___init__.nd rfl (Or.inl rfl)) pgs_nil)))
  (pss_one (ps_if (pt_not (pt_val (pc F_is_row hr (by rfl) (pa_cons (pv 5) (pa_cons (pe_callB call_len_str (by rfl) T.len PySem.boot_len (pa_cons (pv 1) pa_nil)) (pa_cons (pe_callB (callLenSeq K) (by rfl) T.len PySem.boot_len (pa_cons (pv 2) pa_nil)) pa_nil)))))) (pss_one ps_never) pss_nil)))
  (pss_cons (ps_if (pt_not (pt_val (pc F_is_number hr (by rfl) (pa_cons (pv 3) (pa_cons pe_int (pa_cons (pe_op op_sub (pe_callB (callLenSeq K) (by rfl) T.len PySem.boot_len (pa_cons (pv 2) pa_nil)) pe_int) pa_nil)))))) (pss_one ps_never) pss_nil)
  (pss_cons (ps_fld (pv 0) (pv 1) rfl)
  (pss_cons (ps_fld (pv 0) (pe_callTy (callListOf K) (by rfl) T.list (by decide +kernel) (pa_cons (pv 2) pa_nil)) rfl)
  (pss_one (ps_fld (pv 0) (pv 3) rfl))))))))), ?_⟩
    have hk1 := ok.k1
    have hk3 := ok.k3
    have hn1 := ok.n1
    have hn8 := ok.n8
    refine ⟨_, rfl, M.k, rfl, hk1, by omega, fun H1 s1 => ?_⟩
    -- if not isinstance(rows, (list, tuple)) or len(rows) == 0
    refine ⟨_, rfl, szl (by show 2 ≤ 1000000; decide), fun p1 n1 => ?_⟩
    have s2 : Same H (upd H1 p1 (.tup [.ty "list", .ty "tuple"])) := s1.trans (same_upd n1)
    refine ⟨_, _, _, _, _, _, rfl, upd_same, .cons (.ty _) (.cons (.ty _) .nil), tyL (s2 _ _ hr1), kitAny_ll, true, rfl, iteF ?_⟩
    refine ⟨_, rfl, r, vrs, rfl, .inl (SqL.of (s2 _ _ hr1)), rfl, _, rfl, ?_⟩
    have e0 : (decide (V.int (vrs.length : Int) = V.int 0)) = false := decide_eq_false fun e => by
      injection e with e
      rw [htl.1] at e
      omega
    rw [e0]
    refine iteF ?_
    refine ⟨_, rfl, r, vrs, rfl, .inl (SqL.of (s2 _ _ hr1)), _, _, rfl, rfl, _, rfl, ?_⟩
    rw [decide_eq_false (by rw [htl.1]; omega)]
    refine iteF ?_
    -- for at, row in enumerate(rows)
    generalize hH2 : upd H1 p1 (.tup [.ty "list", .ty "tuple"]) = H2 at s2
    refine ⟨_, rfl, .ref r, vrs, _, rfl, .lst r vrs, s2 _ _ hr1, ?_⟩
    refine for_wk (wk_enum (.lst r vrs) hr1) (fun i σ H' => Same H H' ∧ ∃ v4 v5, σ = [some (.ref x), some (.str (al M)), some (.ref r), some (.int (M.s0 : Int)), v4, v5]) ⟨s2, none, none, rfl⟩ (fun i σ H h => h.1) ?_ ?_
    · rintro i v σ H3 H4 hi ⟨s3, v4, v5, rfl⟩ s34 ⟨t, y, rfl, ht, hy⟩
      obtain ⟨row, hrow, ar, rfl, har⟩ := htl.2 i y hy
      have s4 := s3.trans s34
      have hR := ok.row row (List.mem_of_getElem? hrow)
      refine ⟨t, _, rfl, SqT.of ht, rfl, _, _, rfl, _, _, rfl, rfl, ?_⟩
      refine ⟨_, rfl, _, rfl, al M, rfl, by unfold al; rw [txt_len, List.length_range]; exact szl (by omega), _, rfl, r, vrs, rfl, .inl (SqL.of (s4 _ _ hr1)), ar, row, (al M).length, vrs.length, rfl, s4 _ _ har, by unfold al; rw [txt_len, List.length_range]; exact hR.1, by unfold al; rw [txt_len, List.length_range]; omega, fun z hz => by rw [htl.1]; exact hR.2 z hz, fun H5 s5 => ⟨true, rfl, iteF ⟨s4.trans s5, _, _, rfl⟩⟩⟩
    · rintro σ H3 ⟨s3, v4, v5, rfl⟩
      -- if not is_number(start, 0, len(rows) - 1)
      refine ⟨_, rfl, _, rfl, r, vrs, rfl, .inl (SqL.of (s3 _ _ hr1)), _, _, rfl, rfl, (M.s0 : Int), 0, _, rfl, .inr ⟨_, rfl⟩, _, rfl, ?_⟩
      have e : (decide ((0 : Int) ≤ (M.s0 : Int)) && atMost (.int ((vrs.length : Int) - 1)) (M.s0 : Int)) = true := by
        rw [decide_eq_true (by omega), Bool.true_and]
        exact decide_eq_true (by rw [htl.1]; have := ok.st; omega)
      rw [e]
      refine iteF ?_
      have h3x := s3 _ _ hx
      -- the fields
      refine ⟨_, rfl, _, rfl, x, CM, dx, [], rfl, h3x, cM.cls, cM.a1, by decide, ?_⟩
      have h3r : (upd H3 x (.ins CM dx (putF "own_alphabet" (.str (al M)) []))) r = some (.lst vrs) := by
        rw [upd_ne (ne_of (s3 _ _ hr1) h3x (fun z => nomatch z))]
        exact s3 _ _ hr1
      refine ⟨_, rfl, r, vrs, rfl, .inl (SqL.of h3r), fun b nb => ?_⟩
      have hbx : b ≠ x := fun e => by rw [e, upd_same] at nb; cases nb
      refine ⟨_, rfl, x, CM, dx, _, rfl, same_upd nb _ _ upd_same, cM.cls, cM.a2, by show 1 < 1000; decide, ?_⟩
      refine ⟨_, rfl, _, rfl, x, CM, dx, _, rfl, upd_same, cM.cls, cM.a3, by show 2 < 1000; decide, ?_⟩
      refine q _ b (fun c o hc ho => ?_) ?_ ?_
      · rw [upd_ne hc, upd_ne hc]
        have : (upd H3 x (.ins CM dx (putF "own_alphabet" (.str (al M)) []))) c = some o := by rw [upd_ne hc]; exact s3 _ _ ho
        exact same_upd nb _ _ this
      · rw [upd_same]
        rfl
      · rw [upd_ne hbx, upd_ne hbx, upd_same]
end
end Kn
/-! G9 -/
set_option maxHeartbeats 1000000
namespace Kn
open PySem PySem.Spec PyProof.Rows L2
theorem sc_small_reach : FnScope ["machine", "found"] ["machine"] (defScope s_small_reach) := ⟨rfl, rfl, rfl, by decide +kernel, rfl, by decide +kernel, by decide +kernel⟩
theorem sc_is_set : FnScope ["reached", "value", "state"] ["reached", "value"] (defScope s_is_set) := ⟨rfl, rfl, rfl, by decide +kernel, rfl, by decide +kernel, by decide +kernel⟩
theorem sc_led_set : FnScope ["machine", "states", "word", "state"] ["machine", "states", "word"] (defScope s_led_set) := ⟨rfl, rfl, rfl, by decide +kernel, rfl, by decide +kernel, by decide +kernel⟩
theorem sc_inner : FnScope ["states", "turn", "state"] ["states", "turn"] (defScope s_inner) := ⟨rfl, rfl, rfl, by decide +kernel, rfl, by decide +kernel, by decide +kernel⟩
theorem tyTz {K : Fr} {H : Hp} {a : Addr} {xs : List V} (h : Rd H a (.tup xs)) : TyX K H (.ref a) (.type "tuple") := h.elim (fun h => tyT h) fun ⟨_, h⟩ => .fTuple h
section
variable {J : It} {H0 : Hp} {n : Nat} {Xr : Nat → V → Hp → Prop}
/-- [value for target in J], the values told by vf -/
theorem lc_vals {g : TG} {te : TE} {vs : List Nat} {σ : L2.St} {H1 : Hp} {D : Addr} {Qd : Hp → Prop} (vf : Nat → V) (Wl : Wk J H1 n Xr) (hD : H1 D = none) (hz : n ≤ 1000000) (S : Nat → L2.St → Hp → Prop)
    (hg : ∀ i x H (Q : L2.St → Hp → Prop), i < n → Same H1 H → Xr i x H → (∀ σ2, wipe σ2 vs = wipe σ vs → S i σ2 H → Q σ2 H) → g x (wipe σ vs) H Q)
    (he : ∀ i σ2 H, i < n → Same H1 H → S i σ2 H → Ev te σ2 H (fun y _ => y = vf i))
    (hd : ∀ H, Same H1 H → H D = some (.lst ((List.range n).map vf)) → Qd H) :
    ∃ W : Nat → Nat → Hp → Prop, (∃ m, W 0 m (upd H1 D (.lst []))) ∧ ∀ i m H, W i m H →
      (J.stop i H ∧ Qd H) ∨ (J.go i H ∧ ∃ Nx : Hp → Prop, (∀ H', Nx H' → ∃ m', m' < m ∧ W (i + 1) m' H') ∧ ∀ x H', J.yld i H x H' → g x (wipe σ vs) H' fun σ2 H2 => wipe σ2 vs = wipe σ vs ∧ tYes σ2 H2 fun b H3 =>
        if b = true then te σ2 H3 fun y H4 => ∃ acc, H4 D = some (.lst acc) ∧ acc.length < sizeLine ∧ Nx (upd H4 D (.lst (acc ++ [y]))) else Nx H3) := by
  refine lc_map Wl hD hz S (fun i y _ => y = vf i) (fun _ _ _ _ _ _ h => h) hg he ?_
  intro ys H sm hl hlen hr
  refine hd H sm ?_
  rw [hl]
  congr 2
  apply List.ext_getElem?
  intro i
  rw [List.getElem?_map]
  cases e : ys[i]? with
  | none =>
    have := List.getElem?_eq_none_iff.mp e
    rw [List.getElem?_eq_none (by rw [List.length_range]; omega)]
    rfl
  | some y =>
    have hi : i < n := by rw [← hlen]; exact (List.getElem?_eq_some_iff.mp e).1
    rw [hr i y e, range_get hi]
    rfl
end
theorem getD_of {r : List Nat} {i x : Nat} (h : r[i]? = some x) : r.getD i 0 = x := by
  rw [List.getD_eq_getElem?_getD, h]
  rfl
theorem vals_of (g : Nat → Nat) (r : List Nat) : (List.range r.length).map (fun i => V.int ((g (r.getD i 0) : Nat) : Int)) = tI (r.map g) := by
  apply List.ext_getElem?
  intro i
  unfold tI
  rw [List.map_map, List.getElem?_map, List.getElem?_map]
  rcases Nat.lt_or_ge i r.length with h | h
  · rw [range_get h, List.getElem?_eq_getElem h]
    show some (V.int ((g (r.getD i 0) : Nat) : Int)) = _
    rw [getD_of (List.getElem?_eq_getElem h)]
    rfl
  · rw [List.getElem?_eq_none (by rw [List.length_range]; exact h), List.getElem?_eq_none h]
    rfl
theorem tI_flat (l : List Nat) : (tI l).all flatV = true := List.all_eq_true.mpr fun v hv => by
  obtain ⟨y, _, rfl⟩ := List.mem_map.mp hv
  rfl
theorem inV_tI {l : List Nat} {x : Nat} : inV (.int (x : Int)) (tI l) = decide (x ∈ l) := by
  unfold inV
  rw [Bool.eq_iff_iff, List.any_eq_true, decide_eq_true_iff]
  constructor
  · rintro ⟨v, hv, e⟩
    obtain ⟨y, hy, rfl⟩ := List.mem_map.mp hv
    have e : ((y : Int) == (x : Int)) = true := e
    have := eq_of_beq e
    have : y = x := by omega
    exact this ▸ hy
  · exact fun h => ⟨_, List.mem_map.mpr ⟨x, h, rfl⟩, show ((x : Int) == (x : Int)) = true from beq_self_eq_true _⟩
def sp_ascI : Sp := fun vs H Q _ => ∃ (a : Addr) (w : List Nat), vs = [.ref a] ∧ Rd H a (.tup (tI w)) ∧ 1 ≤ w.length ∧ w.length ≤ 1000 ∧ ∀ H', Same H H' → Q (.bl (decide (w.Pairwise (· < ·)))) H'
def sp_small (C : Addr) : Sp := fun vs H Q _ => ∃ (v : V) (M : Mc), vs = [v] ∧ IsM C H v M ∧ (∀ rs, Rch M rs → rs.length ≤ 6) ∧ ∀ H' b rs, H b = none → Same H H' → H' b = some (.lst (tI rs)) → Rch M rs → Q (.ref b) H'
def sp_isset : Sp := fun vs H Q _ => ∃ (b a : Addr) (rs ss : List Nat), vs = [.ref b, .ref a] ∧ H b = some (.lst (tI rs)) ∧ Rd H a (.tup (tI ss)) ∧ ss ≠ [] ∧ ss.length ≤ 1000 ∧ (∀ s ∈ ss, s ∈ rs) ∧ ss.Pairwise (· < ·) ∧ ∀ H', Same H H' → Q (.bl true) H'
def sp_ledset (C : Addr) : Sp := fun vs H Q _ => ∃ (v : V) (M : Mc) (a : Addr) (ss wd : List Nat), vs = [v, .ref a, .str (txt wd)] ∧ IsM C H v M ∧ Rd H a (.tup (tI ss)) ∧ ss.length ≤ 1000 ∧ (∀ s ∈ ss, s < M.rows.length) ∧ (∀ i ∈ wd, i < M.k) ∧ wd.length ≤ 1000000 ∧
  ∀ H' b, H b = none → Same H H' → H' b = some (.tup (tI (ss.map fun s => M.run s wd))) → Q (.ref b) H'
def sp_inner : Sp := fun vs H Q _ => ∃ (b : Addr) (v : V) (ss r : List Nat), vs = [v, .ref b] ∧ TupF H v ss ∧ Rd H b (.tup (tI r)) ∧ r.length ≤ 1000 ∧ (∀ s ∈ r, s ∈ ss) ∧
  ∀ H' c, H c = none → Same H H' → H' c = some (.tup (tI (r.map fun s => ss.idxOf s))) → Q (.ref c) H'
section
variable {P : Program} {w : World} {K : Fr} {mg : Str → Option Value} {base : Heap} {fd : FuncData} {f CM : Addr}
theorem ok_ascI (F0 : FnP K "ascends" s_ascends f fd) (T : Bt mg) : FnOk P w K mg base CX0 1 f fd ["letters"] sp_ascI := by
  refine F0.ok sc_ascends (fun vs H Q E h => ?_) (fun cdv A outer s H vs Q E hr h => ?_)
  · obtain ⟨a, w, rfl, _⟩ := h
    rfl
  · obtain ⟨a, w, rfl, ha, h1, h26, q⟩ := h
    refine ⟨_, PSs.nox (pss_one (ps_ret (pe_callB (crAll K) (by rfl) T.all (by decide +kernel) (pa_cons (pe_lc (own := [("one", 1), ("other", 2)]) (g := gTup K 2 (gCons (gName 1) (gCons (gName 2) gNil))) (tt := tYes) rfl sc_ascends.nd (pi_zipG (by rfl) T.zip (pa_cons (pv 0) (pa_cons (pe_slice (slT K) (pv 0) (po_some pe_int) po_none) pa_nil)))
  (blkOk_by (N := ["letters", "one", "other"]) (sc := defScope s_ascends) (by decide +kernel)) (fun _ _ _ _ _ => (pg_tupK K rfl (pgs_cons (pg_name (i := 1) sc_ascends.nd rfl (Or.inl rfl)) (pgs_cons (pg_name (i := 2) sc_ascends.nd rfl (Or.inl rfl)) pgs_nil)))) (fun _ _ _ _ _ => pts_nil) (fun _ _ _ _ _ => (pe_cmpR op_lt (pv 1) (pv 2) (nomark _)))) pa_nil)))), ?_⟩
    have hlo : HT.sIx (tI w).length 0 (some 1) = 1 := by
      rw [show (some (1 : Int)) = some ((1 : Nat) : Int) from rfl, HT.sIx_nat, tI_len]
      omega
    have hcut : cutV (tI w) (some 1) none = tI (w.drop 1) := by
      unfold cutV
      rw [hlo, HT.sIx_none, List.take_of_length_le (by rw [List.length_drop]; exact Nat.le_refl _)]
      unfold tI
      rw [List.map_drop]
    refine ⟨_, rfl, _, rfl, 1, rfl, a, tI w, rfl, ha.sq, (fun z => by rw [hlo] at z; omega), fun p np => ?_⟩
    rw [hcut]
    have s1 : Same H (upd H p (.tup (tI (w.drop 1)))) := same_upd np
    refine ⟨_, _, _, _, _, _, rfl, .tupR a (tI w), .tup p (tI (w.drop 1)), ha.same s1, upd_same, fun D hD => ?_⟩
    have hn : min (tI w).length (tI (w.drop 1)).length = w.length - 1 := by
      rw [tI_len, tI_len, List.length_drop]
      omega
    have W := wk_zip (H0 := upd H p (.tup (tI (w.drop 1)))) (.tupR a (tI w)) (.tup p (tI (w.drop 1))) (ha.same s1) upd_same
    rw [hn] at W
    refine lc_bools (fun i => decide (w.getD i 0 < w.getD (i + 1) 0)) W hD (by omega) (fun i σ2 _ => σ2 = [some (.ref a), some (.int (w.getD i 0 : Nat)), some (.int (w.getD (i + 1) 0 : Nat))]) ?_ ?_ ?_
    · rintro i x H' Q' hi sm ⟨T, x1, y1, rfl, hT, h1, h2⟩ k
      obtain ⟨rfl, _⟩ := get_of (f := fun n : Nat => V.int (n : Int)) h1
      obtain ⟨rfl, _⟩ := get_of (f := fun n : Nat => V.int (n : Int)) h2
      rw [getD_drop1] at hT
      exact ⟨T, _, rfl, SqT.of hT, rfl, _, _, rfl, _, _, rfl, rfl, k _ rfl rfl⟩
    · rintro i σ2 H' hi sm rfl Q' q'
      refine ⟨_, rfl, _, rfl, _, _, rfl, rfl, q' _ _ (Same.refl _) ?_⟩
      show V.bl _ = V.bl _
      congr 1
      rw [Bool.eq_iff_iff, decide_eq_true_iff, decide_eq_true_iff]
      omega
    · intro H' sm hl
      refine ⟨D, _, rfl, SqL.of hl, ?_⟩
      rw [asc_iff]
      exact q _ (s1.trans sm)
theorem ok_small (F0 : FnP K "small_reach" s_small_reach f fd) (T : Bt mg) (Cn : Ct mg) (cM : MCl K CM) (F_M_reachable : Mo P w K mg base CM "reachable" ["self"] 3 (sp_reach CM)) : FnOk P w K mg base CX0 4 f fd ["machine"] (sp_small CM) := by
  refine F0.ok sc_small_reach (fun vs H Q E h => ?_) (fun cdv A outer s H vs Q E hr h => ?_)
  · obtain ⟨v, M, rfl, _⟩ := h
    rfl
  · obtain ⟨v, M, rfl, hM, h6, q⟩ := h
    obtain ⟨ok, a, dx, b, vrs, rfl, h1, h2, h3⟩ := id hM
    refine ⟨_, PSs.nox (pss_cons (ps_set (i := 1) sc_small_reach.nd rfl (Or.inl rfl) (pm0 F_M_reachable cM.cls (pv 0) hr))
  (pss_cons (ps_if (pt_cmpR op_gt (pe_callB (callLenSeq K) (by rfl) T.len PySem.boot_len (pa_cons (pv 1) pa_nil)) (pe_globE Cn.MOST_BUILT (by rfl)) (nomark _)) (pss_one ps_never) pss_nil)
  (pss_one (ps_ret (pv 1))))), ?_⟩
    refine ⟨_, rfl, a, dx, _, rfl, h1, rfl, _, M, rfl, hM, fun H' c rs nc sm hc hR => ?_⟩
    refine ⟨_, rfl, c, tI rs, rfl, .inl (SqL.of hc), _, _, rfl, rfl, _, rfl, ?_⟩
    have := h6 rs hR
    rw [decide_eq_false (by rw [tI_len]; omega)]
    exact iteF ⟨_, rfl, q _ c rs nc sm hc hR⟩
theorem ok_isset (F0 : FnP K "is_set" s_is_set f fd) (T : Bt mg) (F_is_number2 : FoD P w K mg base "is_number" ["value", "least", "most"] 1 sp_number [.non]) (F_ascends : Fo P w K mg base "ascends" ["letters"] 1 sp_ascI) : FnOk P w K mg base CX0 2 f fd ["reached", "value"] sp_isset := by
  refine F0.ok sc_is_set (fun vs H Q E h => ?_) (fun cdv A outer s H vs Q E hr h => ?_)
  · obtain ⟨b, a, rs, ss, rfl, _⟩ := h
    rfl
  · obtain ⟨b, a, rs, ss, rfl, hb, ha, hne, hl, hsub, hasc, q⟩ := h
    refine ⟨_, PSs.nox (pss_cons (ps_if (PW.pt (pw_or (pt_not (pt_val (pe_callB (callIsi K) (by rfl) T.isinstance (by decide +kernel) (pa_cons (pv 1) (pa_cons (pe_bltn (v := .ty "tuple") (by rfl) T.tuple (by decide +kernel) rfl) pa_nil))))) (pw_or (pt_cmpR op_eq (pe_callB (callLenSeq K) (by rfl) T.len PySem.boot_len (pa_cons (pv 1) pa_nil)) pe_int (nomark _)) (pw_or1 (pt_not (pt_val (pe_callB (crAll K) (by rfl) T.all (by decide +kernel) (pa_cons (pe_lc (own := [("state", 2)]) (g := gName 2) (tt := tYes) rfl sc_is_set.nd (piT K (pv 1))
  (blkOk_by (N := ["reached", "value", "state"]) (sc := defScope s_is_set) (by decide +kernel)) (fun _ _ _ _ _ => pg_name (i := 2) sc_is_set.nd rfl (Or.inl rfl)) (fun _ _ _ _ _ => pts_nil) (fun _ _ _ _ _ => (pcD F_is_number2 hr (by rfl) (pa_cons (pv 2) (pa_cons pe_int pa_nil))))) pa_nil)))))))) (pss_one (ps_ret pe_bl)) pss_nil)
  (pss_one (ps_ret (pe_and (pc F_ascends hr (by rfl) (pa_cons (pv 1) pa_nil)) (pe_one (pe_callB (crAll K) (by rfl) T.all (by decide +kernel) (pa_cons (pe_lc (own := [("state", 2)]) (g := gName 2) (tt := tYes) rfl sc_is_set.nd (piT K (pv 1))
  (blkOk_by (N := ["reached", "value", "state"]) (sc := defScope s_is_set) (by decide +kernel)) (fun _ _ _ _ _ => pg_name (i := 2) sc_is_set.nd rfl (Or.inl rfl)) (fun _ _ _ _ _ => pts_nil) (fun _ _ _ _ _ => (pe_cmpR (opInSeq K) (pv 2) (pv 0) (by rfl)))) pa_nil))))))), ?_⟩
    have hlo : ss.length ≠ 0 := fun e => hne (List.length_eq_zero_iff.mp e)
    refine ⟨_, rfl, _, _, _, _, _, rfl, .ty _, tyTz ha, kit_ty k_tt, true, rfl, iteF ?_⟩
    refine ⟨_, rfl, a, _, rfl, .inr (ha.sq), rfl, _, rfl, ?_⟩
    have e0 : (decide (V.int ((tI ss).length : Int) = V.int 0)) = false := decide_eq_false fun e => by
      injection e with e
      rw [tI_len] at e
      omega
    rw [e0]
    refine iteF ?_
    refine ⟨_, rfl, a, rfl, ⟨_, ha.sq⟩, fun D hD => ?_⟩
    refine lc_bools (fun _ => true) (wk_tup (ha.sq)) hD (by rw [tI_len]; omega) (fun i σ2 _ => ∃ x : Nat, σ2 = [some (.ref b), some (.ref a), some (.int (x : Int))]) (fun i x H' Q' hi sm hx kk => ?_) ?_ ?_
    · obtain ⟨y, hy, rfl⟩ := tI_get hx
      exact kk _ rfl ⟨y, rfl⟩
    · rintro i σ2 H' hi sm ⟨x, rfl⟩ Q' q'
      refine ⟨_, rfl, (x : Int), 0, _, rfl, .inl rfl, q' _ _ (Same.refl _) ?_⟩
      show V.bl _ = V.bl true
      congr 1
    · intro H' sm hl
      refine ⟨D, _, rfl, SqL.of hl, ?_⟩
      rw [all_true]
      refine ⟨true, rfl, iteF ?_⟩
      refine ⟨_, rfl, a, ss, rfl, ha.same sm, by omega, ‹_›, fun H2 s2 => ?_⟩
      rw [decide_eq_true hasc]
      refine ⟨true, rfl, iteT ?_⟩
      have s3 := sm.trans s2
      refine ⟨_, rfl, a, rfl, ⟨_, (ha.same s3).sq⟩, fun D2 hD2 => ?_⟩
      refine lc_bools (fun _ => true) (wk_tup ((ha.same s3).sq)) hD2 (by rw [tI_len]; omega) (fun i σ2 _ => ∃ x : Nat, x ∈ ss ∧ σ2 = [some (.ref b), some (.ref a), some (.int (x : Int))]) (fun i x H' Q' hi sm hx kk => ?_) ?_ ?_
      · obtain ⟨y, hy, rfl⟩ := tI_get hx
        exact kk _ rfl ⟨y, List.mem_of_getElem? hy, rfl⟩
      · rintro i σ2 H3 hi sm3 ⟨x, hx, rfl⟩ Q' q'
        refine ⟨_, rfl, _, rfl, b, _, rfl, .inl (SqL.of (sm3 _ _ (s3 _ _ hb))), rfl, tI_flat _, ?_⟩
        rw [inV_tI, decide_eq_true (hsub x hx)]
        exact q' _ _ (Same.refl _) rfl
      · intro H3 sm3 hl3
        refine ⟨D2, _, rfl, SqL.of hl3, ?_⟩
        rw [all_true]
        exact q _ (s3.trans sm3)
theorem ok_ledset (F0 : FnP K "led_set" s_led_set f fd) (T : Bt mg) (cM : MCl K CM) (F_M_led : Mo P w K mg base CM "led" ["self", "state", "word"] 3 (sp_led CM)) : FnOk P w K mg base CX0 4 f fd ["machine", "states", "word"] (sp_ledset CM) := by
  refine F0.ok sc_led_set (fun vs H Q E h => ?_) (fun cdv A outer s H vs Q E hr h => ?_)
  · obtain ⟨v, M, a, ss, wd, rfl, _⟩ := h
    rfl
  · obtain ⟨v, M, a, ss, wd, rfl, hM, ha, hl, hlt, hwd, hwl, q⟩ := h
    refine ⟨_, PSs.nox (pss_one (ps_ret (pe_callTy (callTupOf K) (by rfl) T.tuple (by decide +kernel) (pa_cons (pe_lc (own := [("state", 3)]) (g := gName 3) (tt := tYes) rfl sc_led_set.nd (piT K (pv 1))
  (blkOk_by (N := ["machine", "states", "word", "state"]) (sc := defScope s_led_set) (by decide +kernel)) (fun _ _ _ _ _ => pg_name (i := 3) sc_led_set.nd rfl (Or.inl rfl)) (fun _ _ _ _ _ => pts_nil) (fun _ _ _ _ _ => (pm F_M_led cM.cls (pv 0) hr (pa_cons (pv 3) (pa_cons (pv 2) pa_nil))))) pa_nil)))), ?_⟩
    refine ⟨_, rfl, a, rfl, ⟨_, ha.sq⟩, fun D hD => ?_⟩
    refine lc_vals (fun i => V.int ((M.run (ss.getD i 0) wd : Nat) : Int)) (wk_tup (ha.sq)) hD (by rw [tI_len]; omega) (fun i σ2 _ => ∃ x : Nat, ss[i]? = some x ∧ σ2 = [some v, some (.ref a), some (.str (txt wd)), some (.int (x : Int))]) (fun i x H' Q' hi sm hx kk => ?_) ?_ ?_
    · obtain ⟨y, hy, rfl⟩ := tI_get hx
      exact kk _ rfl ⟨y, hy, rfl⟩
    · rintro i σ2 H' hi sm ⟨x, hx, rfl⟩ Q' q'
      obtain ⟨ok, am, dx, b, vrs, rfl, h1, h2, h3⟩ := id hM
      refine ⟨_, rfl, am, dx, _, rfl, sm _ _ h1, rfl, _, rfl, _, rfl, _, M, x, wd, rfl, hM.same sm, hlt x (List.mem_of_getElem? hx), hwd, hwl, fun H2 s2 => q' _ _ s2 ?_⟩
      rw [getD_of hx]
    · intro H' sm hl'
      rw [tI_len, vals_of (fun s => M.run s wd)] at hl'
      exact ⟨D, _, rfl, .inl ⟨SqL.of hl', fun p np => q _ p (sm.free np) (sm.trans (same_upd np)) upd_same⟩⟩
theorem ok_inner (F0 : FnP K "inner" s_inner f fd) (T : Bt mg) : FnOk P w K mg base CX0 1 f fd ["states", "turn"] sp_inner := by
  refine F0.ok sc_inner (fun vs H Q E h => ?_) (fun cdv A outer s H vs Q E hr h => ?_)
  · obtain ⟨b, v, ss, r, rfl, _⟩ := h
    rfl
  · obtain ⟨b, v, ss, r, rfl, ha, hb, hl, hsub, q⟩ := h
    obtain ⟨a, o, rfl, ha, hdn⟩ := ha
    refine ⟨_, PSs.nox (pss_one (ps_ret (pe_callTy (callTupOf K) (by rfl) T.tuple (by decide +kernel) (pa_cons (pe_lc (own := [("state", 2)]) (g := gName 2) (tt := tYes) rfl sc_inner.nd (piT K (pv 1))
  (blkOk_by (N := ["states", "turn", "state"]) (sc := defScope s_inner) (by decide +kernel)) (fun _ _ _ _ _ => pg_name (i := 2) sc_inner.nd rfl (Or.inl rfl)) (fun _ _ _ _ _ => pts_nil) (fun _ _ _ _ _ => (pe_bmF PySem.F.plainAttrs_tuple PySem.F.slot_tuple_index PySem.F.type_tuple_index (mt_tup_indexI K) (pv 0) (pa_cons (pv 2) pa_nil)))) pa_nil)))), ?_⟩
    refine ⟨_, rfl, b, rfl, ⟨_, hb.sq⟩, fun D hD => ?_⟩
    refine lc_vals (fun i => V.int ((ss.idxOf (r.getD i 0) : Nat) : Int)) (wk_tup hb.sq) hD (by rw [tI_len]; omega) (fun i σ2 _ => ∃ x : Nat, r[i]? = some x ∧ σ2 = [some (.ref a), some (.ref b), some (.int (x : Int))]) (fun i x H' Q' hi sm hx kk => ?_) ?_ ?_
    · obtain ⟨y, hy, rfl⟩ := tI_get hx
      exact kk _ rfl ⟨y, hy, rfl⟩
    · rintro i σ2 H' hi sm ⟨x, hx, rfl⟩ Q' q'
      refine ⟨_, rfl, ⟨a, o, _, rfl, sm _ _ ha, hdn⟩, _, rfl, a, ss, x, rfl, rfl, .inl (.inr ⟨o, sm _ _ ha⟩), hsub x (List.mem_of_getElem? hx), q' _ _ (Same.refl _) ?_⟩
      rw [getD_of hx]
    · intro H' sm hl'
      rw [tI_len, vals_of (fun s => ss.idxOf s)] at hl'
      exact ⟨D, _, rfl, .inl ⟨SqL.of hl', fun p np => q _ p (sm.free np) (sm.trans (same_upd np)) upd_same⟩⟩
end
end Kn
/-! G10 -/
set_option maxHeartbeats 1000000
namespace Kn
open PySem PySem.Spec PyProof.Rows L2
theorem sc_one_to_one : FnScope ["machine", "states", "found", "waiting", "at", "row", "spot", "letter", "later", "state"] ["machine", "states"] (defScope s_one_to_one) := ⟨rfl, rfl, rfl, by decide +kernel, rfl, by decide +kernel, by decide +kernel⟩
theorem sc_turn_words : FnScope ["machine", "states", "found", "row"] ["machine", "states"] (defScope s_turn_words) := ⟨rfl, rfl, rfl, by decide +kernel, rfl, by decide +kernel, by decide +kernel⟩
abbrev Rw := List (List Nat × List Nat)
def toV (l : Rw) : List (List Nat × V) := l.map fun p => (p.1, V.str (txt p.2))
def gS (l : Rw) : List (List Key × V) := gT (toV l)
abbrev fr (l : Rw) : List (List Nat) := l.map (·.1)
theorem toV_keys (l : Rw) : (toV l).map (·.1) = fr l := by
  unfold toV
  rw [List.map_map]
  rfl
theorem gS_len (l : Rw) : (gS l).length = l.length := by unfold gS; rw [gT_len]; unfold toV; exact List.length_map _
theorem toV_snoc (l : Rw) (r w : List Nat) : toV (l ++ [(r, w)]) = toV l ++ [(r, V.str (txt w))] := by
  unfold toV
  rw [List.map_append]
  rfl
theorem gS_put {l : Rw} {r : List Nat} (w : List Nat) (h : r ∉ fr l) : putK (gS l) (kN r) (.str (txt w)) = gS (l ++ [(r, w)]) := by
  unfold gS
  rw [toV_snoc, gT_snoc]
  exact putK_new _ (val_gT_none (by rw [toV_keys]; exact h))
theorem gS_none {l : Rw} {r : List Nat} (h : r ∉ fr l) : valV (gS l) (kN r) = none := val_gT_none (by rw [toV_keys]; exact h)
theorem gS_some {l : Rw} {r w : List Nat} (hn : (fr l).Nodup) (h : (r, w) ∈ l) : valV (gS l) (kN r) = some (.str (txt w)) := val_gT_some (by rw [toV_keys]; exact hn) (List.mem_map.mpr ⟨_, h, rfl⟩)
theorem fr_snoc (l : Rw) (r w : List Nat) : fr (l ++ [(r, w)]) = fr l ++ [r] := by
  show (l ++ [(r, w)]).map (·.1) = _
  rw [List.map_append]
  rfl
/-- the row that a letter makes of a row -/
def nx (M : Mc) (r : List Nat) (i : Nat) : List Nat := r.map fun s => M.stp s i
/-- the search for rows: the first k of them gone through -/
structure Ow (M : Mc) (ss : List Nat) (l : Rw) (k : Nat) : Prop where
  le : k ≤ l.length
  nd : (fr l).Nodup
  st : ss ∈ fr l
  ok : ∀ p ∈ l, (∀ i ∈ p.2, i < M.k) ∧ p.1 = ss.map (fun s => M.run s p.2) ∧ p.1.Nodup ∧ p.2.length ≤ l.length
  cl : ∀ (j : Nat) (r : List Nat), j < k → (fr l)[j]? = some r → ∀ i, i < M.k → (nx M r i).Nodup → nx M r i ∈ fr l
/-- all of them -/
structure O2 (M : Mc) (ss : List Nat) (l : Rw) : Prop where
  nd : (fr l).Nodup
  st : ss ∈ fr l
  ok : ∀ p ∈ l, (∀ i ∈ p.2, i < M.k) ∧ p.1 = ss.map (fun s => M.run s p.2) ∧ p.1.Nodup ∧ p.2.length ≤ 300000
  cl : ∀ r ∈ fr l, ∀ i, i < M.k → (nx M r i).Nodup → nx M r i ∈ fr l
  few : l.length ≤ 262144
/-- what a set is -/
structure St (M : Mc) (ss : List Nat) : Prop where
  ne : ss ≠ []
  few : ss.length ≤ 6
  nd : ss.Nodup
  lt : ∀ s ∈ ss, s < M.rows.length
theorem Ow.row {M : Mc} {ss : List Nat} {l : Rw} {k : Nat} (h : Ow M ss l k) (ok : M.Ok) (S : St M ss) {p : List Nat × List Nat} (hp : p ∈ l) : p.1.length = ss.length ∧ ∀ x ∈ p.1, x < M.rows.length := by
  obtain ⟨h1, h2, _⟩ := h.ok p hp
  rw [h2]
  refine ⟨List.length_map _, fun x hx => ?_⟩
  obtain ⟨s, hs, rfl⟩ := List.mem_map.mp hx
  exact ok.runlt (S.lt s hs) h1
theorem Ow.few {M : Mc} {ss : List Nat} {l : Rw} {k : Nat} (h : Ow M ss l k) (ok : M.Ok) (S : St M ss) : l.length ≤ 262144 := by
  have := rows_few ok.n8 S.few h.nd fun p hp => by
    obtain ⟨q, hq, rfl⟩ := List.mem_map.mp hp
    exact h.row ok S hq
  rw [List.length_map] at this
  exact this
theorem Ow.more {M : Mc} {ss : List Nat} {l : Rw} {k : Nat} {r w : List Nat} (h : Ow M ss l k) (hr : r ∉ fr l) (h1 : ∀ i ∈ w, i < M.k) (h2 : r = ss.map fun s => M.run s w) (h3 : r.Nodup) (h4 : w.length ≤ l.length + 1) : Ow M ss (l ++ [(r, w)]) k := by
  have hl : (l ++ [(r, w)]).length = l.length + 1 := by rw [List.length_append]; rfl
  refine ⟨by rw [hl]; exact Nat.le_succ_of_le h.le, by rw [fr_snoc]; exact nd_snoc h.nd hr, by rw [fr_snoc]; exact List.mem_append_left _ h.st, fun p hp => ?_, fun j s hj hs i hi hn => ?_⟩
  · rcases List.mem_append.mp hp with q | q
    · obtain ⟨a, b, c, d⟩ := h.ok p q
      exact ⟨a, b, c, by omega⟩
    · rw [List.mem_singleton.mp q]
      exact ⟨h1, h2, h3, by rw [hl]; exact h4⟩
  · rw [fr_snoc] at hs ⊢
    have hj' : j < (fr l).length := by
      have := h.le
      rw [List.length_map]
      omega
    rw [List.getElem?_append_left hj'] at hs
    exact List.mem_append_left _ (h.cl j s hj hs i hi hn)
theorem Ow.next {M : Mc} {ss : List Nat} {l : Rw} {k : Nat} {r : List Nat} (h : Ow M ss l k) (hr : (fr l)[k]? = some r) (hd : ∀ i, i < M.k → (nx M r i).Nodup → nx M r i ∈ fr l) : Ow M ss l (k + 1) := by
  have hk : k < l.length := by
    have := (List.getElem?_eq_some_iff.mp hr).1
    rw [List.length_map] at this
    exact this
  refine ⟨hk, h.nd, h.st, h.ok, fun j s hj hs i hi hn => ?_⟩
  rcases Nat.lt_or_ge j k with q | q
  · exact h.cl j s q hs i hi hn
  · have e : j = k := by omega
    subst e
    rw [hr] at hs
    cases hs
    exact hd i hi hn
theorem Ow.all {M : Mc} {ss : List Nat} {l : Rw} (h : Ow M ss l l.length) (ok : M.Ok) (S : St M ss) : O2 M ss l := by
  have hf := h.few ok S
  refine ⟨h.nd, h.st, fun p hp => ?_, fun r hr i hi hn => ?_, hf⟩
  · obtain ⟨a, b, c, d⟩ := h.ok p hp
    exact ⟨a, b, c, by omega⟩
  · obtain ⟨j, hj, e⟩ := List.getElem_of_mem hr
    exact h.cl j r (by rw [List.length_map] at hj; exact hj) (by rw [List.getElem?_eq_getElem hj, e]) i hi hn
def sp_o2o (P : Program) (w : World) (C : Addr) : Sp := fun vs H Q _ => ∃ (v : V) (M : Mc) (a : Addr) (ss : List Nat), vs = [v, .ref a] ∧ IsM C H v M ∧ Rd H a (.tup (tI ss)) ∧ St M ss ∧
  ∀ H' d l, H d = none → Same H H' → DZ P w H' d (gS l) → O2 M ss l → Q (.ref d) H'
section
variable {P : Program} {w : World} {K : Fr} {mg : Str → Option Value} {base : Heap} {fd : FuncData} {f CM : Addr}
theorem ok_o2o (F0 : FnP K "one_to_one" s_one_to_one f fd) (T : Bt mg) (cM : MCl K CM) (F_M_alphabet : Po P w K mg base CM "alphabet" 1 (sp_alph CM)) (F_M_step : Mo P w K mg base CM "step" ["self", "state", "at"] 1 (sp_step CM)) : FnOk P w K mg base CX0 3 f fd ["machine", "states"] (sp_o2o P w CM) := by
  refine F0.ok sc_one_to_one (fun vs H Q E h => ?_) (fun cdv A outer s H vs Q E hr h => ?_)
  · obtain ⟨v, M, a, ss, rfl, _⟩ := h
    rfl
  · obtain ⟨v, M, a, ss, rfl, hM, ha, S, q⟩ := h
    refine ⟨_, PSs.nox (pss_cons (ps_set (i := 2) sc_one_to_one.nd rfl (Or.inl rfl) (pe_zdisp P w (pv 1) pe_str (hu_of hr)))
  (pss_cons (ps_par (by rfl) sc_one_to_one.nd (i := 3) (j := 4) rfl rfl (by decide) rfl rfl (pa_cons (pe_lst (pa_cons (pv 1) pa_nil)) (pa_cons pe_int pa_nil)) (by rfl))
  (pss_cons (ps_while PassesOwn.never (pt_cmpR op_lt (pv 4) (pe_callB (callLenSeq K) (by rfl) T.len PySem.boot_len (pa_cons (pv 3) pa_nil)) (nomark _)) (pss_cons (ps_set (i := 5) sc_one_to_one.nd rfl (Or.inl rfl) (pe_ix (ixL K) (pv 3) (pv 4) (fun _ _ => rfl)))
  (pss_cons (ps_aug (i := 4) sc_one_to_one.nd rfl (Or.inl rfl) pe_int ip_add)
  (pss_one (ps_for PassesOwn.never rfl (pi_enumG (by rfl) T.enumerate (pa_cons (pp F_M_alphabet cM.cls (pv 0) hr) pa_nil)) (pg_tupK K rfl (pgs_cons (pg_name (i := 6) sc_one_to_one.nd rfl (Or.inr rfl)) (pgs_cons (pg_name (i := 7) sc_one_to_one.nd rfl (Or.inl rfl)) pgs_nil)))
  (pss_cons (ps_set (i := 8) sc_one_to_one.nd rfl (Or.inl rfl) (pe_callTy (callTupOf K) (by rfl) T.tuple (by decide +kernel) (pa_cons (pe_lc (own := [("state", 9)]) (g := gName 9) (tt := tYes) rfl sc_one_to_one.nd (piT K (pv 5))
  (blkOk_by (N := ["machine", "states", "found", "waiting", "at", "row", "spot", "letter", "later", "state"]) (sc := defScope s_one_to_one) (by decide +kernel)) (fun _ _ _ _ _ => pg_name (i := 9) sc_one_to_one.nd rfl (Or.inl rfl)) (fun _ _ _ _ _ => pts_nil) (fun _ _ _ _ _ => (pm F_M_step cM.cls (pv 0) hr (pa_cons (pv 9) (pa_cons (pv 6) pa_nil))))) pa_nil)))
  (pss_one (ps_if (PW.pt (pw_and (pt_cmp (pc_znotin P w (hu_of hr) (pv 8) (pv 2))) (pw_and1 (pt_cmpR op_eq (pe_lenSetT K rfl (by rfl) T.len (by rfl) T.set (pv 8)) (pe_callB (callLenSeq K) (by rfl) T.len PySem.boot_len (pa_cons (pv 8) pa_nil)) (nomark _))))) (pss_cons (ps_zput P w (hu_of hr) (pv 2) (pv 8) (pe_op op_add_str (pe_zget P w (hu_of hr) (pv 2) (pv 5) (fun _ _ => rfl)) (pv 7)) rfl)
  (pss_one (ps_expr (pe_bm PySem.F.plainAttrs_list PySem.F.slot_list_append PySem.F.type_list_append mt_append (pv 3) (pa_cons (pv 8) pa_nil))))) pss_nil))))))))
  (pss_one (ps_ret (pv 2)))))), ?_⟩
    obtain ⟨ok, am, dx, b, vrs, rfl, h1, h2, h3⟩ := id hM
    -- found = {states: ""}
    refine fun d hd => ⟨_, rfl, upd_same, a, kN ss, rfl, by rw [kN_kV]; exact ha.same (same_upd hd), fun od hZ => ?_⟩
    have s1 : Same H (upd (upd H d (zO d { cls := .type "dict", data := .dict #[] })) d (zO d od)) := ((Same.refl H).upd' hd).upd' hd
    generalize hH1 : upd (upd H d (zO d { cls := .type "dict", data := .dict #[] })) d (zO d od) = H1 at hZ s1
    have hdn : H1 d ≠ none := by rw [← hH1, upd_same]; exact fun z => nomatch z
    -- waiting, at = [states], 0
    refine ⟨_, rfl, szl (by show 1 ≤ 1000000; decide), fun q1 hq1 => ⟨_, _, rfl, ?_⟩⟩
    have hq1H := s1.free hq1
    have hdq : d ≠ q1 := fun e => hdn (e ▸ hq1)
    have s2 := s1.trans (same_upd (o := .lst [.ref a]) hq1)
    -- while at < len(waiting)
    refine ⟨fun m σ H' => ∃ l k ws v5 v6 v7 v8, σ = [some (.ref am), some (.ref a), some (.ref d), some (.ref q1), some (.int ((k : Nat) : Int)), v5, v6, v7, v8, none] ∧ m = 262144 - k ∧ Same H H' ∧ DZ P w H' d (gS l) ∧ H' q1 = some (.lst ws) ∧ TZ H' ws (fr l) ∧ Ow M ss l k,
      ⟨262144, [(ss, [])], 0, [.ref a], none, none, none, none, rfl, rfl, s2, (show DZ P w H1 d (gS [(ss, [])]) from hZ).same (same_upd hq1), upd_same, ⟨rfl, fun i v e => ?_⟩, ⟨Nat.zero_le _, by simp [fr], List.mem_singleton.mpr rfl, fun p hp => ?_, fun j s hj => absurd hj (Nat.not_lt_zero _)⟩⟩, ?_⟩
    · match i, e with
      | 0, e =>
        cases e
        exact ⟨ss, rfl, a, rfl, ha.same s2⟩
    · rw [List.mem_singleton.mp hp]
      refine ⟨fun i hi => (List.not_mem_nil hi).elim, ?_, S.nd, Nat.zero_le _⟩
      show ss = ss.map (fun s => s)
      rw [List.map_id']
    rintro m σ H4 ⟨l, k, ws, v5, v6, v7, v8, rfl, rfl, sm4, h4d, h4q, htz, hO⟩
    have hfew := hO.few ok S
    refine ⟨_, rfl, _, rfl, q1, _, rfl, .inl (SqL.of h4q), _, _, rfl, rfl, _, rfl, ?_⟩
    refine ite2 (fun hlt => ?_) (fun hge => ?_)
    · have hkl : k < ws.length := by
        have := of_decide_eq_true hlt
        omega
      obtain ⟨wv, hwv⟩ : ∃ wv, ws[k]? = some wv := ⟨_, List.getElem?_eq_getElem hkl⟩
      obtain ⟨row, hrow, ar, rfl, har⟩ := htz.2 k wv hwv
      obtain ⟨pl, hpl, rfl⟩ : ∃ pl, pl ∈ l ∧ pl.1 = row := by
        have := List.mem_of_getElem? hrow
        exact List.mem_map.mp this
      obtain ⟨hp1, hp2, hp3, hp4⟩ := hO.ok pl hpl
      obtain ⟨hr1, hr2⟩ := hO.row ok S hpl
      have hkl' : k < 262144 := by rw [htz.1, List.length_map] at hkl; omega
      refine ⟨fun σ' H' => ∃ m', m' < 262144 - k ∧ ∃ l k ws v5 v6 v7 v8, σ' = [some (.ref am), some (.ref a), some (.ref d), some (.ref q1), some (.int ((k : Nat) : Int)), v5, v6, v7, v8, none] ∧ m' = 262144 - k ∧ Same H H' ∧ DZ P w H' d (gS l) ∧ H' q1 = some (.lst ws) ∧ TZ H' ws (fr l) ∧ Ow M ss l k, fun σ' H' h => h, ?_⟩
      refine ⟨_, rfl, _, rfl, q1, _, (k : Int), .ref ar, rfl, rfl, SqL.of h4q, atI_nat hwv, ?_⟩
      refine ⟨_, rfl, _, _, rfl, rfl, ?_⟩
      refine ⟨_, rfl, am, dx, _, rfl, sm4 _ _ h1, _, M, rfl, hM.same sm4, _, _, _, rfl, .txt (al M), trivial, ?_⟩
      have W := wk_enum (H0 := H) (.txt (al M)) trivial
      have hn : (signs (al M)).length = M.k := by
        unfold al
        rw [signs_txt, List.length_map, List.length_range]
      rw [hn] at W
      refine for_wk W (fun i σ H' => Same H H' ∧ ∃ l' ws' v6 v7 v8, σ = [some (.ref am), some (.ref a), some (.ref d), some (.ref q1), some (.int ((k : Int) + 1)), some (.ref ar), v6, v7, v8, none] ∧ DZ P w H' d (gS l') ∧ H' q1 = some (.lst ws') ∧ TZ H' ws' (fr l') ∧ Ow M ss l' k ∧ pl ∈ l' ∧ (fr l')[k]? = some pl.1 ∧ Rd H' ar (.tup (tI pl.1)) ∧ ∀ j, j < i → (nx M pl.1 j).Nodup → nx M pl.1 j ∈ fr l')
        ⟨sm4, l, ws, v6, v7, v8, rfl, h4d, h4q, htz, hO, hpl, hrow, har, fun j hj => absurd hj (Nat.not_lt_zero _)⟩ (fun i σ H h => h.1) ?_ ?_
      · rintro i x σ H5 H6 hi ⟨sm5, l', ws', v6, v7, v8, rfl, h5d, h5q, htz', hO', hpl', hk', har', hdone⟩ s56 ⟨t, y, rfl, ht, hy⟩
        have hy : y = .str (txt [i]) := by
          unfold al at hy
          rw [signs_txt] at hy
          obtain ⟨rfl, _⟩ := get_of hy
          rw [range_getD hi]
        subst hy
        have sm6 := sm5.trans s56
        refine ⟨t, _, rfl, SqT.of ht, rfl, _, _, rfl, _, _, rfl, rfl, ?_⟩
        -- later = tuple(..)
        refine ⟨_, rfl, ar, rfl, ⟨_, (har'.same s56).sq⟩, fun D hD => ?_⟩
        refine lc_vals (fun j => V.int ((M.stp (pl.1.getD j 0) i : Nat) : Int)) (wk_tup (har'.same s56).sq) hD (by rw [tI_len, hr1]; have := S.few; omega) (fun j σ2 _ => ∃ x : Nat, pl.1[j]? = some x ∧ σ2 = [some (.ref am), some (.ref a), some (.ref d), some (.ref q1), some (.int ((k : Int) + 1)), some (.ref ar), some (.int (i : Int)), some (.str (txt [i])), v8, some (.int (x : Int))]) (fun j x H' Q' hj sm hx kk => ?_) ?_ ?_
        · obtain ⟨y, hy, rfl⟩ := tI_get hx
          exact kk _ rfl ⟨y, hy, rfl⟩
        · rintro j σ2 H' hj sm ⟨x, hx, rfl⟩ Q' q'
          refine ⟨_, rfl, am, dx, _, rfl, sm _ _ (sm6 _ _ h1), rfl, _, rfl, _, rfl, _, M, x, i, rfl, hM.same (sm6.trans sm), hr2 x (List.mem_of_getElem? hx), hi, q' _ _ (Same.refl _) ?_⟩
          rw [getD_of hx]
        · intro H7 sm7 hl7
          rw [tI_len, vals_of (fun s => M.stp s i)] at hl7
          refine ⟨D, _, rfl, .inl ⟨SqL.of hl7, fun p np => ?_⟩⟩
          generalize hr : (pl.1.map fun s => M.stp s i) = r at *
          have hrn : r = nx M pl.1 i := hr.symm
          have s8 : Same H6 (upd H7 p (.tup (tI r))) := sm7.trans (same_upd np)
          have h8p : (upd H7 p (.tup (tI r))) p = some (.tup (tI r)) := upd_same
          have np6 : H6 p = none := sm7.free np
          generalize hH8 : upd H7 p (.tup (tI r)) = H8 at s8 h8p
          have s58 := s56.trans s8
          have sm8 := sm5.trans s58
          have h8d := h5d.same s58
          have h8q := s58 _ _ h5q
          have hrl : r.length = ss.length := by rw [← hr, List.length_map, hr1]
          have hrlt : ∀ x ∈ r, x < M.rows.length := fun x hx => by
            rw [← hr] at hx
            obtain ⟨s, hs, rfl⟩ := List.mem_map.mp hx
            exact ok.lt (hr2 s hs) hi
          refine ⟨_, rfl, _, rfl, d, p, _, kN r, rfl, rfl, h8d, .inl (kN_eq h8p), _, rfl, ?_⟩
          by_cases hin : r ∈ fr l'
          · obtain ⟨pr, hpr, hpr2⟩ := List.mem_map.mp hin
            rw [gS_some (w := pr.2) hO'.nd (by rw [← hpr2]; exact hpr)]
            refine iteF (iteF ⟨sm8, l', ws', _, _, _, rfl, h8d, h8q, htz'.same s58, hO', hpl', hk', har'.same s58, fun j hj hn => ?_⟩)
            rcases Nat.lt_or_ge j i with z | z
            · exact hdone j z hn
            · have : j = i := by omega
              subst this
              rw [← hrn]
              exact hin
          · rw [gS_none hin]
            refine iteT ?_
            refine ⟨_, rfl, p, r, rfl, SqT.of h8p, by rw [hrl]; have := S.few; omega, fun c hc1 hc2 => ?_⟩
            refine ⟨_, rfl, p, _, rfl, .inr (SqT.of h8p), rfl, _, rfl, ?_⟩
            by_cases hnd : r.Nodup
            · have e : (decide (V.int (c : Int) = V.int ((tI r).length : Int))) = true := decide_eq_true (by rw [tI_len, hc2.mpr hnd])
              rw [e]
              refine iteT ?_
              obtain ⟨hq2, hq3, _, hq4⟩ := hO'.ok pl hpl'
              have hfew' := hO'.few ok S
              have hval : valV (gS l') (kN pl.1) = some (.str (txt pl.2)) := gS_some hO'.nd hpl'
              have har8 := (har'.same s58)
              refine ⟨_, rfl, _, rfl, d, ar, _, kN pl.1, _, rfl, rfl, h8d, by rw [kN_kV]; exact har8, hval, _, rfl, txt pl.2, txt [i], rfl, rfl, szl (by rw [txt_len, txt_len]; show pl.2.length + 1 ≤ _; omega), ?_⟩
              rw [txt_app]
              refine ⟨_, rfl, _, rfl, d, p, _, kN r, rfl, rfl, h8d, .inl (kN_eq h8p), szl' (by rw [gS_len]; omega), fun od hZ9 => ?_⟩
              rw [gS_put _ hin] at hZ9
              have hq9 : (upd H8 d (zO d od)) q1 = some (.lst ws') := by rw [upd_ne hdq.symm]; exact h8q
              have hdH := hd
              have htz8 := htz'.same s58
              obtain ⟨od8, h8dd⟩ := h8d
              have rd9 : ∀ b ys, Rd H8 b (.tup ys) → Rd (upd (upd H8 d (zO d od)) q1 (.lst (ws' ++ [.ref p]))) b (.tup ys) := fun b ys hb => by
                rcases hb with hb | ⟨o, hb⟩
                · refine .inl ?_
                  rw [upd_ne (ne_of hb h8q (fun z => nomatch z)), upd_ne (ne_of hb h8dd.2.2.1 (fun z => nomatch z))]
                  exact hb
                · refine .inr ⟨o, ?_⟩
                  rw [upd_ne (ne_of hb h8q (fun z => nomatch z)), upd_ne (ne_of hb h8dd.2.2.1 (fun z => nomatch z))]
                  exact hb
              have rd9' : ∀ b ys, Rd (upd H8 d (zO d od)) b (.tup ys) → Rd (upd (upd H8 d (zO d od)) q1 (.lst (ws' ++ [.ref p]))) b (.tup ys) := fun b ys hb => by
                rcases hb with hb | ⟨o, hb⟩
                · exact .inl (by rw [upd_ne (ne_of hb hq9 (fun z => nomatch z))]; exact hb)
                · exact .inr ⟨o, by rw [upd_ne (ne_of hb hq9 (fun z => nomatch z))]; exact hb⟩
              refine ⟨.ref q1, rfl, .inl ⟨rfl, _, SqL.of hq9⟩, _, rfl, q1, _, _, rfl, rfl, hq9, szl' (by rw [htz'.1, List.length_map]; omega), ?_⟩
              refine ⟨(sm8.upd' hd).upd' hq1H, l' ++ [(r, pl.2 ++ [i])], ws' ++ [.ref p], _, _, _, rfl, ?_, upd_same, ?_, hO'.more hin (fun z hz => ?_) ?_ hnd ?_, List.mem_append_left _ hpl', ?_, rd9 _ _ har8, fun j hj hn => ?_⟩
              · obtain ⟨od9, hZ9⟩ := hZ9
                exact ⟨od9, hZ9.keeps (by rw [upd_ne hdq]; exact hZ9.2.2.1) rd9'⟩
              · refine ⟨by rw [List.length_append, fr_snoc, List.length_append, htz'.1]; rfl, fun j v e => ?_⟩
                rw [fr_snoc]
                rcases snoc_at e with ⟨h1, h2⟩ | ⟨h1, rfl⟩
                · obtain ⟨r0, hr0, ar0, rfl, h3⟩ := htz8.2 j v h2
                  exact ⟨r0, by rw [List.getElem?_append_left (List.getElem?_eq_some_iff.mp hr0).1]; exact hr0, ar0, rfl, rd9 _ _ h3⟩
                · refine ⟨r, ?_, p, rfl, rd9 _ _ (.inl h8p)⟩
                  rw [h1, htz'.1, List.getElem?_append_right (Nat.le_refl _), Nat.sub_self]
                  rfl
              · rcases List.mem_append.mp hz with h | h
                · exact hq2 z h
                · rw [List.mem_singleton.mp h]; exact hi
              · rw [← hr, hq3, List.map_map]
                exact List.map_congr_left fun s _ => (Mc.run_snoc M s pl.2 i).symm
              · rw [List.length_append]
                show pl.2.length + 1 ≤ _
                omega
              · rw [fr_snoc, List.getElem?_append_left (List.getElem?_eq_some_iff.mp hk').1]
                exact hk'
              · rw [fr_snoc]
                rcases Nat.lt_or_ge j i with z | z
                · exact List.mem_append_left _ (hdone j z hn)
                · have : j = i := by omega
                  subst this
                  rw [← hrn]
                  exact List.mem_append_right _ (List.mem_singleton.mpr rfl)
            · have e : (decide (V.int (c : Int) = V.int ((tI r).length : Int))) = false := decide_eq_false fun z => hnd (hc2.mp (by
                injection z with z
                rw [tI_len] at z
                omega))
              rw [e]
              refine iteF ⟨sm8, l', ws', _, _, _, rfl, h8d, h8q, htz'.same s58, hO', hpl', hk', har'.same s58, fun j hj hn => ?_⟩
              rcases Nat.lt_or_ge j i with z | z
              · exact hdone j z hn
              · have : j = i := by omega
                subst this
                rw [← hrn] at hn
                exact absurd hn hnd
      · rintro σ H5 ⟨sm5, l', ws', v6, v7, v8, rfl, h5d, h5q, htz', hO', hpl', hk', har', hdone⟩
        exact ⟨_, by omega, l', k + 1, ws', _, _, _, _, rfl, rfl, sm5, h5d, h5q, htz', hO'.next hk' hdone⟩
    · have hkl : l.length ≤ k := by
        have h1 : ¬ ((k : Int) < (ws.length : Int)) := fun z => hge (decide_eq_true z)
        have := htz.1
        rw [List.length_map] at this
        omega
      have : k = l.length := Nat.le_antisymm hO.le hkl
      subst this
      exact ⟨_, rfl, q _ d l hd sm4 h4d (hO.all ok S)⟩
end
end Kn
/-! E0 -/
set_option maxHeartbeats 1000000
namespace Kn
open PySem PySem.Spec PyProof.Rows L2
theorem dpAll_nats {K : Fr} {H : Hp} : ∀ ns : List Nat, DpAll K H (tI ns) (ns.map fun n : Nat => PyData.int (n : Int))
  | [] => .nil
  | n :: ns => by
    rw [tI_cons]
    exact .cons (.int _) (dpAll_nats ns)
theorem dp_tI {K : Fr} {H : Hp} {a : Addr} {ns : List Nat} (h : SqT K H a (tI ns)) : Dp K H (.ref a) (dI ns) := .tup h (dpAll_nats ns)
theorem dp_lI {K : Fr} {H : Hp} {a : Addr} {ns : List Nat} (h : SqL K H a (tI ns)) : Dp K H (.ref a) (.list (ns.map fun n : Nat => PyData.int (n : Int))) := .lst h (dpAll_nats ns)
theorem lay_nats : ∀ ns : List Nat, PyData.canLayAll0 (ns.map fun n : Nat => PyData.int (n : Int)) = true
  | [] => by simp [PyData.canLayAll0]
  | n :: ns => by
    show PyData.canLayAll0 (PyData.int (n : Int) :: ns.map fun n : Nat => PyData.int (n : Int)) = true
    rw [PyData.canLayAll0, lay_nats ns]
    simp [PyData.canLay0]
theorem shaped_dI (ns : List Nat) : SeqAt.shaped (dI ns) = true := by
  unfold SeqAt.shaped
  rw [depth_dI]
  unfold dI
  rw [PyData.canLay0, lay_nats]
  rfl
theorem shaped_lI (ns : List Nat) : SeqAt.shaped (.list (ns.map fun n : Nat => PyData.int (n : Int))) = true := by
  unfold SeqAt.shaped
  rw [PyData.depth, depth_nats, PyData.canLay0, lay_nats]
  rfl
theorem eqv_nats : ∀ xs ys : List Nat, PyData.eqvAll (xs.map fun n : Nat => PyData.int (n : Int)) (ys.map fun n : Nat => PyData.int (n : Int)) = decide (xs = ys)
  | [], [] => by simp [PyData.eqvAll]
  | [], _ :: _ => by simp [PyData.eqvAll]
  | _ :: _, [] => by simp [PyData.eqvAll]
  | x :: xs, y :: ys => by
    show PyData.eqvAll (PyData.int (x : Int) :: xs.map fun n : Nat => PyData.int (n : Int)) (PyData.int (y : Int) :: ys.map fun n : Nat => PyData.int (n : Int)) = _
    rw [PyData.eqvAll, eqv_nats xs ys]
    rw [Bool.eq_iff_iff, Bool.and_eq_true, decide_eq_true_iff, decide_eq_true_iff]
    have e1 : (PyData.eqv (.int (x : Int)) (.int (y : Int)) = true) ↔ x = y := by
      simp only [PyData.eqv]
      rw [beq_iff_eq]
      omega
    rw [e1, List.cons.injEq]
theorem eqv_dI (xs ys : List Nat) : PyData.eqv (dI xs) (dI ys) = decide (xs = ys) := by
  unfold dI
  rw [PyData.eqv, eqv_nats]
theorem eqv_lI (xs ys : List Nat) : PyData.eqv (.list (xs.map fun n : Nat => PyData.int (n : Int))) (.list (ys.map fun n : Nat => PyData.int (n : Int))) = decide (xs = ys) := by
  rw [PyData.eqv, eqv_nats]
/-- a == b, both tuples of small numbers -/
theorem eqd_T {K : Fr} {H : Hp} {Q : VK} {a b : Addr} {xs ys : List Nat} (ha : SqT K H a (tI xs)) (hb : SqT K H b (tI ys)) (q : Q (.bl (decide (xs = ys))) H) : rEqD K (.ref a) (.ref b) H Q :=
  ⟨_, _, dp_tI ha, dp_tI hb, shaped_dI _, shaped_dI _, by rw [eqv_dI]; exact q⟩
theorem ned_T {K : Fr} {H : Hp} {Q : VK} {a b : Addr} {xs ys : List Nat} (ha : SqT K H a (tI xs)) (hb : SqT K H b (tI ys)) (q : Q (.bl (!decide (xs = ys))) H) : rNeD K (.ref a) (.ref b) H Q :=
  ⟨_, _, dp_tI ha, dp_tI hb, shaped_dI _, shaped_dI _, by rw [eqv_dI]; exact q⟩
theorem eqd_L {K : Fr} {H : Hp} {Q : VK} {a b : Addr} {xs ys : List Nat} (ha : SqL K H a (tI xs)) (hb : SqL K H b (tI ys)) (q : Q (.bl (decide (xs = ys))) H) : rEqD K (.ref a) (.ref b) H Q :=
  ⟨_, _, dp_lI ha, dp_lI hb, shaped_lI _, shaped_lI _, by rw [eqv_lI]; exact q⟩
/-- sorted lists of small numbers with the same members -/
theorem perm_asc {ns' ns ss : List Nat} (hp : ns'.Perm ns) (hs : ns'.Pairwise (· ≤ ·)) (hss : ss.Pairwise (· < ·)) : ns' = ss ↔ ns.Perm ss := by
  constructor
  · rintro rfl
    exact hp.symm
  · intro h
    have h1 : ns'.Perm ss := hp.trans h
    have h2 : ns'.Pairwise (· < ·) := by
      have nd : ns'.Nodup := h1.nodup_iff.mpr (hss.imp fun {a b} h => by omega)
      unfold List.Nodup at nd
      exact (hs.and nd).imp fun {a b} ⟨h1, h2⟩ => by omega
    exact h1.eq_of_pairwise (fun a b _ _ h1 h2 => by omega) h2 hss
/-- {k: v for tg in J if ..} over walks that change nothing that stood at H0 -/
theorem dcz_wk {P : Program} {w : World} {J : It} {H0 : Hp} {n : Nat} {Xr : Nat → V → Hp → Prop} {g : TG} {tt : TT} {tk tv : TE} {vs : List Nat} {σ : L2.St} {H1 : Hp} {D : Addr} {Qd : Hp → Prop} (Wl : Wk J H0 n Xr) (Pv : Nat → Hp → Prop)
    (h0 : Pv 0 (upd H1 D (zO D { cls := .type "dict", data := .dict #[] }))) (hS : ∀ i H, Pv i H → Same H0 H)
    (hs : ∀ i x H H', i < n → Pv i H → Same H H' → Xr i x H' → g x (wipe σ vs) H' fun σ2 H2 => wipe σ2 vs = wipe σ vs ∧ tt σ2 H2 fun b H3 =>
      if b = true then tk σ2 H3 fun y H4 => tv σ2 H4 fun z H5 => ∃ (kvs : List (List Key × V)) (k : List Key) (bk : Addr), y = .ref bk ∧ Rd H5 bk (.tup (k.map kV)) ∧ DZ P w H5 D kvs ∧ kvs.length < sizeLine ∧ ∀ od, DZ P w (upd H5 D (zO D od)) D (putK kvs k z) → Pv (i + 1) (upd H5 D (zO D od)) else Pv (i + 1) H3)
    (hd : ∀ H, Pv n H → Qd H) :
    ∃ W : Nat → Nat → Hp → Prop, (∃ m, W 0 m (upd H1 D (zO D { cls := .type "dict", data := .dict #[] }))) ∧ ∀ i m H, W i m H →
      (J.stop i H ∧ Qd H) ∨ (J.go i H ∧ ∃ Nx : Hp → Prop, (∀ H', Nx H' → ∃ m', m' < m ∧ W (i + 1) m' H') ∧ ∀ x H', J.yld i H x H' → g x (wipe σ vs) H' fun σ2 H2 => wipe σ2 vs = wipe σ vs ∧ tt σ2 H2 fun b H3 =>
        if b = true then tk σ2 H3 fun y H4 => tv σ2 H4 fun z H5 => ∃ (kvs : List (List Key × V)) (k : List Key) (bk : Addr), y = .ref bk ∧ Rd H5 bk (.tup (k.map kV)) ∧ DZ P w H5 D kvs ∧ kvs.length < sizeLine ∧ ∀ od, DZ P w (upd H5 D (zO D od)) D (putK kvs k z) → Nx (upd H5 D (zO D od)) else Nx H3) := by
  refine ⟨fun i m H => m = n - i ∧ i ≤ n ∧ Pv i H, ⟨n, by simp, Nat.zero_le _, h0⟩, ?_⟩
  rintro i m H ⟨rfl, hi, p⟩
  have q := hS i H p
  by_cases hlt : i < n
  · refine .inr ⟨Wl.go i H q hlt, Pv (i + 1), fun H' p' => ⟨n - (i + 1), by omega, rfl, hlt, p'⟩, fun x H' y => ?_⟩
    obtain ⟨s1, xr⟩ := Wl.yld i H x H' q hlt y
    exact hs i x H H' hlt p s1 xr
  · have e : i = n := by omega
    subst e
    exact .inl ⟨Wl.stop H q, hd H p⟩
end Kn
/-! G11 -/
set_option maxHeartbeats 1000000
namespace Kn
open PySem PySem.Spec PyProof.Rows L2
/-- the words that turn a set -/
structure Tw (M : Mc) (ss : List Nat) (l : Rw) : Prop where
  nd : (fr l).Nodup
  ok : ∀ p ∈ l, (∀ i ∈ p.2, i < M.k) ∧ p.1 = ss.map (fun s => M.run s p.2) ∧ p.1.Perm ss ∧ p.2.length ≤ 300000
  all : ∀ w : List Nat, (∀ i ∈ w, i < M.k) → (ss.map fun s => M.run s w).Perm ss → (ss.map fun s => M.run s w) ∈ fr l
  few : l.length ≤ 262144
theorem nodup_back {α β : Type} {f : α → β} {l : List α} (h : (l.map f).Nodup) : l.Nodup := by
  unfold List.Nodup at h ⊢
  rw [List.pairwise_map] at h
  exact h.imp fun {a b} z e => z (by rw [e])
theorem O2.all {M : Mc} {ss : List Nat} {l : Rw} (h : O2 M ss l) : ∀ w : List Nat, (∀ i ∈ w, i < M.k) → (ss.map fun s => M.run s w).Nodup → (ss.map fun s => M.run s w) ∈ fr l := by
  have key : ∀ (n : Nat) (w : List Nat), w.length = n → (∀ i ∈ w, i < M.k) → (ss.map fun s => M.run s w).Nodup → (ss.map fun s => M.run s w) ∈ fr l := by
    intro n
    induction n with
    | zero =>
      intro w hw _ _
      have : w = [] := List.eq_nil_of_length_eq_zero hw
      subst this
      have e : (ss.map fun s => M.run s []) = ss := List.map_id' ss
      rw [e]
      exact h.st
    | succ n ih =>
      intro w hw hk hn
      obtain ⟨u, i, rfl⟩ : ∃ u i, w = u ++ [i] := ⟨w.dropLast, w.getLast (fun e => by rw [e] at hw; cases hw), (List.dropLast_concat_getLast _).symm⟩
      have e : (ss.map fun s => M.run s (u ++ [i])) = nx M (ss.map fun s => M.run s u) i := by
        unfold nx
        rw [List.map_map]
        exact List.map_congr_left fun s _ => Mc.run_snoc M s u i
      rw [e] at hn ⊢
      have hu := ih u (by rw [List.length_append] at hw; simpa using hw) (fun j hj => hk j (List.mem_append_left _ hj)) (nodup_back (f := fun s => M.stp s i) hn)
      exact h.cl _ hu i (hk i (List.mem_append_right _ (List.mem_singleton.mpr rfl))) hn
  exact fun w => key _ w rfl
def sp_tw (P : Program) (w : World) (C : Addr) : Sp := fun vs H Q _ => ∃ (v : V) (M : Mc) (a : Addr) (ss : List Nat), vs = [v, .ref a] ∧ IsM C H v M ∧ Rd H a (.tup (tI ss)) ∧ St M ss ∧ ss.Pairwise (· < ·) ∧
  ∀ H' d l, H d = none → Same H H' → DZ P w H' d (gS l) → Tw M ss l → Q (.ref d) H'
section
variable {P : Program} {w : World} {K : Fr} {mg : Str → Option Value} {base : Heap} {fd : FuncData} {f CM : Addr}
theorem ok_tw (F0 : FnP K "turn_words" s_turn_words f fd) (T : Bt mg) (F_one_to_one : Fo P w K mg base "one_to_one" ["machine", "states"] 3 (sp_o2o P w CM)) : FnOk P w K mg base CX0 4 f fd ["machine", "states"] (sp_tw P w CM) := by
  refine F0.ok sc_turn_words (fun vs H Q E h => ?_) (fun cdv A outer s H vs Q E hr h => ?_)
  · obtain ⟨v, M, a, ss, rfl, _⟩ := h
    rfl
  · obtain ⟨v, M, a, ss, rfl, hM, ha, S, hasc, q⟩ := h
    refine ⟨_, PSs.nox (pss_cons (ps_set (i := 2) sc_turn_words.nd rfl (Or.inr rfl) (pc F_one_to_one hr (by rfl) (pa_cons (pv 0) (pa_cons (pv 1) pa_nil))))
  (pss_one (ps_ret (pe_dcZ P w (own := [("row", 3)]) (g := gName 3) (hu_of hr) rfl sc_turn_words.nd (piL K (pe_callB (cr_sortedZ P w rfl hr.units) (by rfl) T.sorted PyProof.Rows.Boot.«sorted» (pa_cons (pv 2) pa_nil)))
  (blkOk_by (N := ["machine", "states", "found", "row"]) (sc := defScope s_turn_words) (by decide +kernel)) (fun _ _ _ _ _ => pg_name (i := 3) sc_turn_words.nd rfl (Or.inl rfl)) (fun _ _ _ _ _ => (pts_one (pt_cmpR (opEqD K hr.units) (pe_callTy (callTupOf K) (by rfl) T.tuple (by decide +kernel) (pa_cons (pe_callB (cr_sortedTup K hr.units) (by rfl) T.sorted PyProof.Rows.Boot.«sorted» (pa_cons (pv 3) pa_nil)) pa_nil)) (pv 1) (nomark _)))) (fun _ _ _ _ _ => (pv 3)) (fun _ _ _ _ _ => (pe_zget P w (hu_of hr) (pv 2) (pv 3) (fun _ _ => rfl))))))), ?_⟩
    refine ⟨_, rfl, _, rfl, _, M, a, ss, rfl, hM, ha, S, fun H1 d l nd s1 hZ hO => ?_⟩
    obtain ⟨ok, _⟩ := hM
    have hrow : ∀ r ∈ fr l, r.length = ss.length := fun r hr => by
      obtain ⟨p, hp, rfl⟩ := List.mem_map.mp hr
      rw [(hO.ok p hp).2.1, List.length_map]
    have hpos : 0 < ss.length := List.length_pos_iff.mpr S.ne
    refine ⟨_, rfl, d, toV l, rfl, hZ, fun p hp => ?_, fun pw ys rows' npw hperm htz => ?_⟩
    · intro e
      have hm : p.1 ∈ fr l := by rw [← toV_keys]; exact List.mem_map.mpr ⟨p, hp, rfl⟩
      have := hrow _ hm
      rw [e] at this
      exact absurd this (by show ¬ (0 = _); omega)
    rw [toV_keys] at hperm
    have s2 : Same H1 (upd H1 pw (.lst ys)) := same_upd npw
    refine ⟨pw, rfl, ⟨_, SqL.of upd_same⟩, fun D hD hDs => ?_⟩
    generalize hH2 : upd H1 pw (.lst ys) = H2 at s2 hD
    have hpw : H2 pw = some (.lst ys) := by rw [← hH2]; exact upd_same
    have hn : ys.length = rows'.length := htz.1
    have hnd' : rows'.Nodup := hperm.nodup_iff.mpr hO.nd
    have hfew := hO.few
    have hlen' : rows'.length = l.length := by rw [hperm.length_eq, List.length_map]
    have hcnt : ∀ (i : Nat) (l2 : Rw), fr l2 = (rows'.take i).filter (fun r => r.isPerm ss) → (fr l2).length ≤ l.length := fun i l2 e => by
      rw [e, ← hlen']
      refine Nat.le_trans (List.length_filter_le _ _) ?_
      rw [List.length_take]
      exact Nat.min_le_right _ _
    have hnew : ∀ (i : Nat) (r : List Nat), rows'[i]? = some r → ∀ l2 : Rw, fr l2 = (rows'.take i).filter (fun r => r.isPerm ss) → r ∉ fr l2 := fun i r hr l2 e hm => by
      rw [e] at hm
      have h1 := (List.mem_filter.mp hm).1
      obtain ⟨j, hj, e1⟩ := List.getElem_of_mem h1
      rw [List.length_take] at hj
      rw [List.getElem_take] at e1
      have e2 : rows'[j]? = rows'[i]? := by rw [hr, List.getElem?_eq_getElem (by omega), e1]
      have hi := (List.getElem?_eq_some_iff.mp hr).1
      have := (List.getElem?_inj (by omega) hnd').mp e2
      omega
    refine dcz_wk (P := P) (w := w) (wk_lst (K := K) (SqL.of hpw)) (fun i H' => Same H2 H' ∧ ∃ l2, DZ P w H' D (gS l2) ∧ fr l2 = (rows'.take i).filter (fun r => r.isPerm ss) ∧ ∀ p ∈ l2, p ∈ l) ⟨same_upd hD, [], dz_new hDs, by simp [fr], fun p hp => (List.not_mem_nil hp).elim⟩ (fun i H h => h.1) ?_ ?_
    · rintro i x H3 H4 hi ⟨s3, l2, hZ3, hl2, hsub⟩ s34 hx
      obtain ⟨r, hr, ar, rfl, har⟩ := htz.2 i x hx
      have hrl : r ∈ fr l := hperm.mem_iff.mp (List.mem_of_getElem? hr)
      obtain ⟨pr, hpr, rfl⟩ := List.mem_map.mp hrl
      have s4 : Same H1 H4 := s2.trans (s3.trans s34)
      have har4 := har.same s4
      refine ⟨rfl, ?_⟩
      refine ⟨_, rfl, ar, pr.1, rfl, har4.sq, fun p5 ns' np5 hp5 hs5 => ?_⟩
      have s5 := s4.trans (same_upd (o := .lst (tI ns')) np5)
      have s45 : Same H4 (upd H4 p5 (.lst (tI ns'))) := same_upd np5
      refine ⟨p5, _, rfl, .inl ⟨SqL.of upd_same, fun p6 np6 => ?_⟩⟩
      have s46 := s45.trans (same_upd (o := .tup (tI ns')) np6)
      generalize hH6 : upd (upd H4 p5 (.lst (tI ns'))) p6 (.tup (tI ns')) = H6 at s46
      have h6 : H6 p6 = some (.tup (tI ns')) := by rw [← hH6]; exact upd_same
      have s6 := s4.trans s46
      refine ⟨_, rfl, eqd_T (SqT.of h6) (ha.same (s1.trans s6)).sq ⟨_, rfl, ?_⟩⟩
      have hll : i < rows'.length := by omega
      have htake : rows'.take (i + 1) = rows'.take i ++ [pr.1] := by
        rw [List.take_succ, hr]
        rfl
      by_cases hP : pr.1.Perm ss
      · rw [decide_eq_true ((perm_asc hp5 hs5 hasc).mpr hP)]
        refine iteT ?_
        refine ⟨_, rfl, _, rfl, _, rfl, d, ar, _, kN pr.1, _, rfl, rfl, hZ.same s6, by rw [kN_kV]; exact har4.same s46, gS_some hO.nd hpr, _, kN pr.1, ar, rfl, by rw [kN_kV]; exact har4.same s46, hZ3.same (s34.trans s46), ?_, fun od hZ7 => ?_⟩
        · have hc := hcnt i l2 hl2
          rw [List.length_map] at hc
          exact szl' (by rw [gS_len]; omega)
        · rw [gS_put _ (hnew i pr.1 hr l2 hl2)] at hZ7
          refine ⟨((s3.trans s34).trans s46).upd' hD, l2 ++ [(pr.1, pr.2)], hZ7, ?_, fun p hp => ?_⟩
          · rw [fr_snoc, hl2, htake, List.filter_append]
            congr 1
            exact (List.filter_cons_of_pos (p := fun r : List Nat => r.isPerm ss) (l := []) (List.isPerm_iff.mpr hP)).symm
          · rcases List.mem_append.mp hp with z | z
            · exact hsub p z
            · rw [List.mem_singleton.mp z]
              exact hpr
      · rw [decide_eq_false (fun z => hP ((perm_asc hp5 hs5 hasc).mp z))]
        refine iteF ?_
        refine ⟨(s3.trans s34).trans s46, l2, hZ3.same (s34.trans s46), ?_, hsub⟩
        rw [hl2, htake, List.filter_append, List.filter_cons_of_neg (p := fun r : List Nat => r.isPerm ss) (l := []) (fun z => hP (List.isPerm_iff.mp z))]
        exact (List.append_nil _).symm
    · rintro H3 ⟨s3, l2, hZ3, hl2, hsub⟩
      have hl2' : fr l2 = rows'.filter (fun r => r.isPerm ss) := by
        rw [hl2, List.take_of_length_le (by omega)]
      refine q H3 D l2 (s1.free (s2.free hD)) ((s1.trans s2).trans s3) hZ3 ⟨?_, fun p hp => ?_, fun w hw hp => ?_, ?_⟩
      · rw [hl2']
        exact hnd'.filter _
      · obtain ⟨h1, h2, h3, h4⟩ := hO.ok p (hsub p hp)
        have hm : p.1 ∈ fr l2 := List.mem_map.mpr ⟨p, hp, rfl⟩
        rw [hl2'] at hm
        exact ⟨h1, h2, List.isPerm_iff.mp (List.mem_filter.mp hm).2, h4⟩
      · rw [hl2']
        exact List.mem_filter.mpr ⟨hperm.mem_iff.mpr (hO.all w hw (hp.nodup_iff.mpr S.nd)), List.isPerm_iff.mpr hp⟩
      · have := hcnt ys.length l2 hl2
        rw [List.length_map] at this
        have h2 := hO.few
        omega
end
end Kn
/-! G12 -/
set_option maxHeartbeats 1000000
namespace Kn
open PySem PySem.Spec PyProof.Rows L2
theorem sc_all_sets : FnScope ["states", "found", "state", "one"] ["states"] (defScope s_all_sets) := ⟨rfl, rfl, rfl, by decide +kernel, rfl, by decide +kernel, by decide +kernel⟩
theorem _root_.L2.FunD.okC {CX : CXT} {P : Program} {w : World} {K : Fr} {mg : Str → Option Value} {base : Heap} {x qual : Str} {params : Arguments} {body : List Stmt} {scope : Scope} {dvs : List V} {kws : List (Str × V)} {f : Addr} {fd : FuncData} {N ps : List Str} {k : Nat} {sp : Sp} (F : FunD K x qual params body scope dvs kws f fd) (S : FnScope N ps scope) (len : ∀ vs H Q E, sp vs H Q E → vs.length = ps.length)
    (hbody : ∀ (A : Around) (outer : List Env) (s : Shared) (H : Hp) (vs : List V) (Q : VK) (E : XK), Room k (A.deeper (envOfC qual scope s.heap.objs.size f fd.code)) → sp vs H Q E →
      ∃ t, PSs (cxOf CX P w K mg base N qual scope f fd.code A outer s H E) body t ∧ t { nx := fun _ H' => Q .non H', rt := Q } (start N vs) H) : FnOk P w K mg base CX (k + 1) f fd ps sp := by
  obtain ⟨oc, od, dV, kV, doc, pm, an, cdv, ct, osl, rfl, lk, hcd, _, _⟩ := F.ex
  exact fn_of lk hcd S len fun A outer s H vs Q E hr hsp => hbody A outer s H vs Q E hr hsp
def lamQ : Str := (envOfC "all_sets" (defScope s_all_sets) 0 0 .none).qual ++ "<lambda>"
/-- the sets in the order in which they come -/
def U (l : List Nat) : List (List Nat) := l.foldl (fun F x => F ++ F.map (· ++ [x])) [[]]
theorem U_snoc (l : List Nat) (x : Nat) : U (l ++ [x]) = U l ++ (U l).map (· ++ [x]) := by
  unfold U
  rw [List.foldl_append]
  rfl
theorem rev_ind {α : Type} {C : List α → Prop} (h0 : C []) (hs : ∀ l x, C l → C (l ++ [x])) (l : List α) : C l := by
  have : ∀ l : List α, C l.reverse := by
    intro l
    induction l with
    | nil => exact h0
    | cons x l ih => rw [List.reverse_cons]; exact hs _ x ih
  have h := this l.reverse
  rw [List.reverse_reverse] at h
  exact h
theorem U_len (l : List Nat) : (U l).length = 2 ^ l.length := by
  induction l using rev_ind with
  | h0 => rfl
  | hs l x ih => rw [U_snoc, List.length_append, List.length_map, ih, List.length_append]; show _ = 2 ^ (l.length + 1); rw [Nat.pow_succ]; omega
theorem U_mem (l : List Nat) : ∀ ss, ss ∈ U l ↔ ss.Sublist l := by
  induction l using rev_ind with
  | h0 => exact fun ss => ⟨fun h => by rw [List.mem_singleton.mp h]; exact List.Sublist.refl _, fun h => by rw [List.sublist_nil.mp h]; exact List.mem_singleton.mpr rfl⟩
  | hs l x ih =>
    intro ss
    rw [U_snoc, List.mem_append, List.mem_map]
    constructor
    · rintro (h | ⟨t, h, rfl⟩)
      · exact ((ih ss).mp h).trans (List.sublist_append_left _ _)
      · exact ((ih t).mp h).append (List.Sublist.refl _)
    · intro h
      obtain ⟨l1, l2, rfl, h1, h2⟩ := List.sublist_append_iff.mp h
      rcases l2 with _ | ⟨y, l3⟩
      · rw [List.append_nil]
        exact .inl ((ih l1).mpr h1)
      · have h3 := h2.length_le
        have e : y :: l3 = [x] := h2.eq_of_length_le (by show 1 ≤ l3.length + 1; omega)
        exact .inr ⟨l1, (ih l1).mpr h1, by rw [e]⟩
theorem U_count (l : List Nat) : (U l).count [] = 1 := by
  induction l using rev_ind with
  | h0 => rfl
  | hs l x ih =>
    rw [U_snoc, List.count_append, ih]
    have : ((U l).map (· ++ [x])).count [] = 0 := List.count_eq_zero.mpr fun h => by
      obtain ⟨t, _, e⟩ := List.mem_map.mp h
      exact absurd e (by simp)
    rw [this]
/-- all sets of some states -/
structure As (rs : List Nat) (L : List (List Nat)) : Prop where
  ok : ∀ ss ∈ L, ss ≠ [] ∧ ss.Sublist rs
  all : ∀ ss, ss ≠ [] → ss.Sublist rs → ss ∈ L
def sp_allsets (T : List (Addr × Str)) : Sp := fun vs H Q _ => ∃ (b : Addr) (rs : List Nat), vs = [.ref b] ∧ H b = some (.lst (tI rs)) ∧ rs.length ≤ 6 ∧ LamX.Tabs T H ∧
  ∀ H' p ys L, LamX.ExtN H H' → LamX.Tabs T H' → H' p = some (.lst ys) → TF H' ys L → As rs L → Q (.ref p) H'
section
variable {P : Program} {w : World} {K : Fr} {mg : Str → Option Value} {base : Heap} {fd : FuncData} {f CM c Pt : Addr}
theorem ok_allsets (F0 : FnP K "all_sets" s_all_sets f fd) (T : Bt mg) (TB : LamX.TabB base mg c Pt) (hcd : fd.code = .ref c) : FnOk P w K mg base CX0 3 f fd ["states"] (sp_allsets [(Pt, lamQ)]) := by
  refine F0.okC sc_all_sets (fun vs H Q E h => ?_) (fun A outer s H vs Q E hr h => ?_)
  · obtain ⟨b, rs, rfl, _⟩ := h
    rfl
  · obtain ⟨b, rs, rfl, hb, hl, hT, q⟩ := h
    refine ⟨_, PSs.nox (pss_cons (ps_set (i := 1) sc_all_sets.nd rfl (Or.inl rfl) (pe_lst (pa_cons (pe_tupF pa_nil) pa_nil)))
  (pss_cons (ps_for PassesOwn.never rfl (piL K (pv 0)) (pg_name (i := 2) sc_all_sets.nd rfl (Or.inr rfl))
  (pss_one (ps_set (i := 1) sc_all_sets.nd rfl (Or.inl rfl) (pe_op op_cat (pv 1) (pe_lc (own := [("one", 3)]) (g := gName 3) (tt := tYes) rfl sc_all_sets.nd (piL K (pv 1))
  (blkOk_by (N := ["states", "found", "state", "one"]) (sc := defScope s_all_sets) (by decide +kernel)) (fun _ _ _ _ _ => pg_name (i := 3) sc_all_sets.nd rfl (Or.inl rfl)) (fun _ _ _ _ _ => pts_nil) (fun _ _ _ _ _ => (pe_tupF (pa_starK K (pv 3) (pa_cons (pv 2) pa_nil)))))))))
  (pss_one (ps_ret (pe_slice (slL K) (pe_sortLamF (T := [(Pt, lamQ)]) hr.units (hr.mono (by decide)) (by rfl) T.sorted T.len (pa_cons (pv 1) pa_nil) TB hcd (List.mem_singleton.mpr rfl) (fun p hp _ => by rw [List.mem_singleton.mp hp]; rfl) rfl (by decide) (by decide) rfl rfl rfl rfl rfl (by decide) (fun _ _ _ _ _ => rfl)) (po_some pe_int) po_none))))), ?_⟩
    refine ⟨szl (by show 0 ≤ 1000000; decide), fun p0 o0 np0 hd0 => ⟨szl (by show 1 ≤ 1000000; decide), fun p1 np1 => ?_⟩⟩
    have s1 : Same H (upd H p0 (.frz o0 (.tup []))) := same_upd np0
    have s2 := s1.trans (same_upd (o := .lst [.ref p0]) np1)
    have hp0 : (upd (upd H p0 (.frz o0 (.tup []))) p1 (.lst [.ref p0])) p0 = some (.frz o0 (.tup [])) := same_upd np1 _ _ upd_same
    have hp1 : (upd (upd H p0 (.frz o0 (.tup []))) p1 (.lst [.ref p0])) p1 = some (.lst [.ref p0]) := upd_same
    generalize hH1 : upd (upd H p0 (.frz o0 (.tup []))) p1 (.lst [.ref p0]) = H1 at s2 hp0 hp1
    refine ⟨_, rfl, b, rfl, ⟨_, SqL.of (s2 _ _ hb)⟩, ?_⟩
    refine for_wk (wk_lst (K := K) (SqL.of hb)) (fun i σ H' => Same H H' ∧ ∃ p ys v2, σ = [some (.ref b), some (.ref p), v2, none] ∧ H' p = some (.lst ys) ∧ TF H' ys (U (rs.take i))) ⟨s2, p1, _, none, rfl, hp1, rfl, fun i v e => ?_⟩ (fun i σ H h => h.1) ?_ ?_
    · match i, e with
      | 0, e =>
        cases e
        exact ⟨[], rfl, p0, o0, rfl, hp0, hd0⟩
    · rintro i v σ H3 H4 hi ⟨s3, p, ys, v2, rfl, h3p, htf⟩ s34 hx
      obtain ⟨x, hx', rfl⟩ := tI_get hx
      have s4 := s3.trans s34
      have h4p := s34 _ _ h3p
      have htf4 := htf.same s34
      have hylen : ys.length ≤ 64 := by
        rw [htf.1, U_len]
        have h1 : (rs.take i).length ≤ 6 := by rw [List.length_take]; omega
        calc 2 ^ (rs.take i).length ≤ 2 ^ 6 := Nat.pow_le_pow_right (by decide) h1
          _ = 64 := by decide
      refine ⟨_, rfl, _, rfl, p, rfl, ⟨_, SqL.of h4p⟩, fun D hD => ?_⟩
      refine lc_map (wk_lst (K := K) (SqL.of h4p)) hD (by omega) (fun j σ2 _ => ∃ a r, TupF H4 (.ref a) r ∧ (U (rs.take i))[j]? = some r ∧ σ2 = [some (.ref b), some (.ref p), some (.int (x : Int)), some (.ref a)]) (fun j y H' => ∃ r, (U (rs.take i))[j]? = some r ∧ TupF H' y (r ++ [x])) ?_ ?_ ?_ ?_
      · rintro j y H2 H3 _ t ⟨r, hr, a, o, rfl, h1, h2⟩
        exact ⟨r, hr, a, o, rfl, t.2 _ _ _ h1, h2⟩
      · rintro j y H' Q' hj sm hy kk
        obtain ⟨r, hr, a, o, rfl, h1, h2⟩ := htf4.2 j y hy
        exact kk _ rfl ⟨a, r, ⟨a, o, rfl, h1, h2⟩, hr, rfl⟩
      · rintro j σ2 H' hj sm ⟨a, r, ⟨a', o, ea, h1, h2⟩, hr, rfl⟩ Q' q'
        cases ea
        refine ⟨_, rfl, a, _, rfl, .inl (.inl (.inr ⟨o, sm _ _ h1⟩)), _, rfl, ?_⟩
        have hrl : r.length ≤ 6 := by
          have := ((U_mem _ r).mp (List.mem_of_getElem? hr)).length_le
          rw [List.length_take] at this
          omega
        have e : tI r ++ [V.int (x : Int)] = tI (r ++ [x]) := by unfold tI; rw [List.map_append]; rfl
        refine ⟨szl (by rw [List.length_append, tI_len]; show r.length + 1 ≤ _; omega), fun l o2 nl hd2 => q' _ _ (same_upd nl) ⟨r, hr, l, o2, rfl, ?_, hd2⟩⟩
        rw [upd_same]
        exact congrArg (fun z => some (HO.frz o2 (.tup z))) e
      · intro zs H5 s45 hD5 hzl hzr
        refine ⟨p, D, ys, zs, rfl, rfl, s45 _ _ h4p, hD5, szl (by rw [hzl]; omega), fun p5 np5 => ?_⟩
        have s5 : Same H5 (upd H5 p5 (.lst (ys ++ zs))) := same_upd np5
        refine ⟨(s4.trans s45).trans s5, p5, ys ++ zs, _, rfl, upd_same, ?_⟩
        have htake : rs.take (i + 1) = rs.take i ++ [x] := by
          rw [List.take_succ, hx']
          rfl
        rw [htake, U_snoc]
        refine ⟨by rw [List.length_append, List.length_append, List.length_map, hzl, htf.1], fun j v e => ?_⟩
        by_cases hj : j < ys.length
        · rw [List.getElem?_append_left hj] at e
          rw [List.getElem?_append_left (by rw [← htf.1]; exact hj)]
          obtain ⟨r, h1, h2⟩ := htf4.2 j v e
          exact ⟨r, h1, h2.same (s45.trans s5)⟩
        · rw [List.getElem?_append_right (by omega)] at e
          rw [List.getElem?_append_right (by rw [← htf.1]; omega), ← htf.1]
          obtain ⟨r, h1, h2⟩ := hzr _ v e
          exact ⟨r ++ [x], by rw [List.getElem?_map, h1]; rfl, h2.same s5⟩
    · rintro σ H3 ⟨s3, p, ys, v2, rfl, h3p, htf⟩
      have hall : rs.take (tI rs).length = rs := List.take_of_length_le (by rw [tI_len]; exact Nat.le_refl _)
      rw [hall] at htf
      have hT3 : LamX.Tabs [(Pt, lamQ)] H3 := hT.ext s3
      refine ⟨_, rfl, p, ys, U rs, rfl, h3p, htf, ?_, hT3, fun H4 p5 zs rows' eN T4 np5 hperm hsort htf5 => ?_⟩
      · rw [U_len]
        calc 2 ^ rs.length ≤ 2 ^ 6 := Nat.pow_le_pow_right (by decide) hl
          _ ≤ 1000 := by decide
      have s5 : Same H4 (upd H4 p5 (.lst zs)) := same_upd np5
      have hU : 1 ≤ (U rs).length := by rw [U_len]; exact Nat.one_le_two_pow
      have hlen : 1 ≤ zs.length := by rw [htf5.1, hperm.length_eq]; exact hU
      have hlo : HT.sIx zs.length 0 (some 1) = 1 := by
        rw [show (some (1 : Int)) = some ((1 : Nat) : Int) from rfl, HT.sIx_nat]
        omega
      have hcut : cutV zs (some 1) none = zs.drop 1 := by
        unfold cutV
        rw [hlo, HT.sIx_none, List.take_of_length_le (by rw [List.length_drop]; exact Nat.le_refl _)]
      refine ⟨1, rfl, p5, zs, rfl, SqL.of upd_same, fun p6 np6 => ?_⟩
      rw [hcut]
      have s6 := s5.trans (same_upd (o := .lst (zs.drop 1)) np6)
      obtain ⟨r0, rest, hr0⟩ : ∃ r0 rest, rows' = r0 :: rest := by
        cases h : rows' with
        | nil => rw [h] at hperm; have := hperm.length_eq; simp at this; omega
        | cons r0 rest => exact ⟨r0, rest, rfl⟩
      have hcnt : rows'.count [] = 1 := by rw [hperm.count_eq, U_count]
      have hr0e : r0 = [] := by
        have hm : [] ∈ rows' := List.count_pos_iff.mp (by omega)
        rw [hr0] at hm hsort
        rcases List.mem_cons.mp hm with e | e
        · exact e.symm
        · exact List.eq_nil_of_length_eq_zero (by have := (List.pairwise_cons.mp hsort).1 _ e; simpa using this)
      subst hr0e
      have hrest : [] ∉ rest := fun h => by
        rw [hr0, List.count_cons_self] at hcnt
        have := List.count_pos_iff.mpr h
        omega
      refine q _ p6 _ rest ((LamX.ExtN.of s3).trans (eN.trans (LamX.ExtN.of s6))) (T4.ext s6) upd_same ⟨by rw [List.length_drop, htf5.1, hr0]; rfl, fun i v e => ?_⟩ ⟨fun ss hss => ⟨fun e => hrest (e ▸ hss), (U_mem rs ss).mp (hperm.mem_iff.mp (by rw [hr0]; exact List.mem_cons_of_mem _ hss))⟩, fun ss hne hsub => ?_⟩
      · rw [List.getElem?_drop] at e
        obtain ⟨r, h1, h2⟩ := htf5.2 _ v e
        rw [hr0, Nat.add_comm, List.getElem?_cons_succ] at h1
        exact ⟨r, h1, h2.same s6⟩
      · have hm := hperm.mem_iff.mpr ((U_mem rs ss).mpr hsub)
        rw [hr0] at hm
        rcases List.mem_cons.mp hm with e | e
        · exact absurd e hne
        · exact e
end
end Kn
/-! G13 -/
set_option maxHeartbeats 1000000
namespace Kn
open PySem PySem.Spec PyProof.Rows L2 NdefX
abbrev Prs := List (List (List (List Nat)))
/-- tuples of what In tells, not too many -/
def BTup {α : Type} (In : Hp → V → α → Prop) (H : Hp) (v : V) (xs : List α) : Prop := xs.length ≤ 50000 ∧ TupOf In H v xs
theorem Stab.btup {α : Type} {In : Hp → V → α → Prop} (s : Stab In) : Stab (BTup In) := fun H H' v xs t h => ⟨h.1, s.tup H H' v xs t h.2⟩
abbrev PaV : Hp → V → List (List Nat) → Prop := BTup (BTup IntV)
abbrev PrV : Hp → V → Prs → Prop := BTup (BTup PaV)
theorem stab_pa : Stab PaV := stab_int.btup.btup
theorem stab_pr : Stab PrV := stab_pa.btup.btup
theorem fn_imp {CX : CXT} {P : Program} {w : World} {K : Fr} {mg : Str → Option Value} {base : Heap} {k : Nat} {f : Addr} {fd : FuncData} {ps : List Str} {sp sp' : Sp} (F : FnOk P w K mg base CX k f fd ps sp) (h : ∀ vs H Q E, sp' vs H Q E → sp vs H Q E) : FnOk P w K mg base CX k f fd ps sp' :=
  ⟨fun vs H Q E z => F.len vs H Q E (h _ _ _ _ z), fun A outer s H args us vs Q E hr e0 hb r z => F.run A outer s H args us vs Q E hr e0 hb r (h _ _ _ _ z)⟩
def sp_cpF : Sp := fun vs H Q _ => ∃ (v : V) (ns : List Nat), vs = [v] ∧ ns.length ≤ 1000 ∧ TupZ H v ns ∧ ∀ H' v', Same H H' → TupF H' v' ns → Q v' H'
section
variable {P : Program} {w : World} {K : Fr} {mg : Str → Option Value} {base : Heap} {fd : FuncData} {f CM C fA : Addr}
theorem ok_cpF (F0 : FnP K "copied" s_copied f fd) (T : Bt mg) (F_copied : Fo P w K mg base "copied" ["value"] 1 (sp_cp IntV)) : FnOk P w K mg base CX0 2 f fd ["value"] sp_cpF := by
  refine F0.ok sc_copied (fun vs H Q E h => ?_) (fun cdv A outer s H vs Q E hr h => ?_)
  · obtain ⟨v, x, rfl, _⟩ := h
    rfl
  · obtain ⟨v, ns, rfl, hz, ⟨a, rfl, ha⟩, q⟩ := h
    refine ⟨_, PSs.nox (pss_cons (ps_if (pt_val (pe_callB (callIsi K) (by rfl) T.isinstance (by decide +kernel) (pa_cons (pv 0) (pa_cons (pe_bltn (v := .ty "tuple") (by rfl) T.tuple (by decide +kernel) rfl) pa_nil)))) (pss_one (ps_ret (pe_callTy (callTupF K) (by rfl) T.tuple (by decide +kernel) (pa_cons (pe_lc (own := [("one", 1)]) (g := gName 1) (tt := tYes) rfl sc_copied.nd (piT K (pv 0)) (blkOk_by (N := ["value", "one"]) (sc := defScope s_copied) (by decide +kernel)) (fun _ _ _ _ _ => pg_name (i := 1) sc_copied.nd rfl (Or.inl rfl)) (fun _ _ _ _ _ => pts_nil) (fun _ _ _ _ _ => (pc F_copied hr (by rfl) (pa_cons (pv 1) pa_nil)))) pa_nil)))) pss_nil)
  (pss_one (ps_ret (pe_ifExp (pt_val (pe_callB (callIsi K) (by rfl) T.isinstance (by decide +kernel) (pa_cons (pv 0) (pa_cons (pe_bltn (v := .ty "list") (by rfl) T.list (by decide +kernel) rfl) pa_nil)))) (pe_lc (own := [("one", 1)]) (g := gName 1) (tt := tYes) rfl sc_copied.nd (piL K (pv 0)) (blkOk_by (N := ["value", "one"]) (sc := defScope s_copied) (by decide +kernel)) (fun _ _ _ _ _ => pg_name (i := 1) sc_copied.nd rfl (Or.inl rfl)) (fun _ _ _ _ _ => pts_nil) (fun _ _ _ _ _ => (pc F_copied hr (by rfl) (pa_cons (pv 1) pa_nil)))) (pv 0))))), ?_⟩
    refine ⟨_, rfl, _, _, _, _, _, rfl, .ty _, tyTz ha, kit_ty k_tt, true, rfl, iteT ?_⟩
    refine ⟨_, rfl, a, rfl, ⟨_, ha.sq⟩, fun D hD => ?_⟩
    refine lc_vals (fun i => V.int ((ns.getD i 0 : Nat) : Int)) (wk_tup ha.sq) hD (by rw [tI_len]; omega) (fun i σ2 _ => ∃ x : Nat, ns[i]? = some x ∧ σ2 = [some (.ref a), some (.int (x : Int))]) (fun i x H' Q' hi sm hx kk => ?_) ?_ ?_
    · obtain ⟨y, hy, rfl⟩ := tI_get hx
      exact kk _ rfl ⟨y, hy, rfl⟩
    · rintro i σ2 H' hi sm ⟨x, hx, rfl⟩ Q' q'
      refine ⟨_, rfl, .int (x : Int), x, rfl, rfl, fun H'' v' s' h' => q' _ _ s' ?_⟩
      rw [getD_of hx]
      exact h'
    · intro H' sm hl'
      rw [tI_len, vals_of (fun s => s), List.map_id'] at hl'
      exact ⟨D, _, rfl, SqL.of hl', fun l o nl hd => q _ _ (sm.trans (same_upd nl)) ⟨l, o, rfl, upd_same, hd⟩⟩
theorem ok_cpB {α : Type} (In : Hp → V → α → Prop) (k : Nat) (hst : Stab In) (F0 : FnP K "copied" s_copied f fd) (T : Bt mg) (F_copied : Fo P w K mg base "copied" ["value"] k (sp_cp In)) : FnOk P w K mg base CX0 (k + 1) f fd ["value"] (sp_cp (BTup In)) :=
  fn_imp (ok_cpS In k hst F0 T F_copied) fun vs H Q E ⟨v, xs, e, h, q⟩ => ⟨v, xs, e, h.1, h.2, fun H' v' s z => q H' v' s ⟨h.1, z⟩⟩
/-- Answer.__init__ -/
def sp_ainit (K : Fr) (C : Addr) : Sp := fun vs H Q _ => ∃ (x dx : Addr) (v : V), vs = [.ref x, v] ∧ H x = some (.ins C dx []) ∧ Q .non (upd H x (.ins C dx [("machine", v)]))
theorem ok_ainit (F0 : FunD K "__init__" "Answer.__init__" (defArgs s_Answer___init__) (defBody s_Answer___init__) (defScope s_Answer___init__) [] [] f fd) (c : Cls K C) (na : NoAttr K C "machine") : FnOk P w K mg base CX0 1 f fd ["self", "machine"] (sp_ainit K C) := by
  refine F0.ok (N := ["self", "machine"]) ⟨rfl, rfl, rfl, by decide +kernel, rfl, by decide +kernel, by decide +kernel⟩ (fun vs H Q E h => ?_) (fun cdv A outer s H vs Q E hr h => ?_)
  · obtain ⟨x, dx, v, rfl, _⟩ := h
    rfl
  · obtain ⟨x, dx, v, rfl, hx, q⟩ := h
    refine ⟨_, PSs.nox (pss_one (ps_fld (pv 0) (pv 1) rfl)), ?_⟩
    exact ⟨_, rfl, _, rfl, x, C, dx, [], rfl, hx, c, na, by decide, q⟩
/-- the class of rings -/
structure RCl (K : Fr) (C : Addr) : Prop where
  cls : Cls K C
  a1 : NoAttr K C "machine"
  a2 : NoAttr K C "word"
  a3 : NoAttr K C "states"
def sp_rinit (C : Addr) : Sp := fun vs H Q _ => ∃ (x dx b : Addr) (v : V) (wd ns : List Nat), vs = [.ref x, v, .str (txt wd), .ref b] ∧ H x = some (.ins C dx []) ∧ ns.length ≤ 1000 ∧ Rd H b (.tup (tI ns)) ∧
  ∀ H' a o, (∀ c o, c ≠ x → H c = some o → H' c = some o) → H' x = some (.ins C dx [("machine", v), ("word", .str (txt wd)), ("states", .ref a)]) → H' a = some (.frz o (.tup (tI ns))) → o.dict = none → Q .non H'
theorem ok_rinit {fdA : FuncData} (S : SupD P K mg "__init__" "Ring.__init__" (defArgs s_Ring___init__) (defBody s_Ring___init__) (defScope s_Ring___init__) C fA f fd) (FA : FnOk P w K mg base CX0 1 fA fdA ["self", "machine"] (sp_ainit K C)) (bA : Binds K fdA ["self", "machine"] []) (T : Bt mg) (cR : RCl K C)
    (F_copiedW : Fo P w K mg base "copied" ["value"] 1 (sp_cp StrV)) (F_copiedF : Fo P w K mg base "copied" ["value"] 2 sp_cpF) : FnOk P w K mg base CX0 4 f fd ["self", "machine", "word", "states"] (sp_rinit C) := by
  refine sup_ok (N := ["self", "machine", "word", "states", "__class__"]) (i := 1) S (nscope_by (by decide +kernel)) FA bA rfl rfl rfl rfl rfl (by decide) (by decide) (by decide) (fun _ _ _ => rfl) (fun _ _ _ => rfl) (fun _ _ _ => ⟨_, rfl⟩) (fun vs H Q E h => ?_) (fun cc cda A outer s H vs Q E hr h => ?_)
  · obtain ⟨x, dx, b, v, wd, ns, rfl, _⟩ := h
    rfl
  · obtain ⟨x, dx, b, v, wd, ns, rfl, hx, hz, hb, q⟩ := h
    refine ⟨x, dx, [], v, _, rfl, hx, rfl, PSs.nox (pss_cons (ps_fld (pv 0) (pc F_copiedW hr (by rfl) (pa_cons (pv 2) pa_nil)) rfl) (pss_one (ps_fld (pv 0) (pc F_copiedF hr (by rfl) (pa_cons (pv 3) pa_nil)) rfl))), fun p np => ?_⟩
    have hxp : x ≠ p := ne_of_none hx np
    refine ⟨x, dx, v, rfl, by rw [upd_ne hxp]; exact hx, ?_⟩
    have k1 : ∀ c o, c ≠ x → H c = some o → (upd (upd H p (.met fA x)) x (.ins C dx [("machine", v)])) c = some o := fun c o hc ho => by
      rw [upd_ne hc, upd_ne (ne_of_none ho np)]
      exact ho
    refine ⟨_, rfl, .str (txt wd), wd, rfl, rfl, fun H2 v2 s2 e2 => ?_⟩
    have e2 : v2 = .str (txt wd) := e2
    subst e2
    have h2x := s2 _ _ upd_same
    refine ⟨_, rfl, x, C, dx, _, rfl, h2x, cR.cls, cR.a2, by show 1 < 1000; decide, ?_⟩
    have k3 : ∀ c o, c ≠ x → H c = some o → (upd H2 x (.ins C dx (putF "word" (.str (txt wd)) [("machine", v)]))) c = some o := fun c o hc ho => by
      rw [upd_ne hc]
      exact s2 _ _ (k1 c o hc ho)
    have hb3 : Rd (upd H2 x (.ins C dx (putF "word" (.str (txt wd)) [("machine", v)]))) b (.tup (tI ns)) := by
      rcases hb with hb | ⟨o, hb⟩
      · exact .inl (k3 _ _ (ne_of hb hx (fun z => nomatch z)) hb)
      · exact .inr ⟨o, k3 _ _ (ne_of hb hx (fun z => nomatch z)) hb⟩
    refine ⟨_, rfl, .ref b, ns, rfl, hz, ⟨b, rfl, hb3⟩, fun H4 v4 s4 h4 => ?_⟩
    obtain ⟨a, o, rfl, h5, h6⟩ := h4
    have h4x := s4 _ _ upd_same
    refine ⟨_, rfl, x, C, dx, _, rfl, h4x, cR.cls, cR.a3, by show 2 < 1000; decide, ?_⟩
    refine q _ a o (fun c o hc ho => ?_) ?_ ?_ h6
    · rw [upd_ne hc]
      exact s4 _ _ (k3 c o hc ho)
    · rw [upd_same]
      rfl
    · rw [upd_ne (ne_of h5 h4x (fun z => nomatch z))]
      exact h5
/-- the class of knots -/
structure KCl (K : Fr) (C : Addr) : Prop where
  cls : Cls K C
  a1 : NoAttr K C "machine"
  a2 : NoAttr K C "states"
  a3 : NoAttr K C "words"
  a4 : NoAttr K C "products"
def sp_kinit (C : Addr) : Sp := fun vs H Q _ => ∃ (x dx b : Addr) (v vw vp : V) (ns : List Nat) (ws : List (List Nat)) (ps : Prs), vs = [.ref x, v, .ref b, vw, vp] ∧ H x = some (.ins C dx []) ∧ ns.length ≤ 1000 ∧ Rd H b (.tup (tI ns)) ∧ TupOf StrV H vw ws ∧ ws.length ≤ 50000 ∧ PrV H vp ps ∧
  ∀ H' a o vw' vp', (∀ c o, c ≠ x → H c = some o → H' c = some o) → H' x = some (.ins C dx [("machine", v), ("states", .ref a), ("words", vw'), ("products", vp')]) → H' a = some (.frz o (.tup (tI ns))) → o.dict = none → TupOf StrV H' vw' ws → PrV H' vp' ps → Q .non H'
def sp_cpW : Sp := fun vs H Q _ => ∃ (v : V) (xs : List (List Nat)), vs = [v] ∧ xs.length ≤ 50000 ∧ TupOf StrV H v xs ∧ ∀ H' v', Same H H' → TupOf StrV H' v' xs → Q v' H'
def sp_cpP : Sp := fun vs H Q _ => ∃ (v : V) (xs : Prs), vs = [v] ∧ PrV H v xs ∧ ∀ H' v', Same H H' → PrV H' v' xs → Q v' H'
/-- all but x stands -/
def KeepX (x : Addr) (H H' : Hp) : Prop := ∀ c o, c ≠ x → H c = some o → H' c = some o
theorem KeepX.rd {x b : Addr} {H H' : Hp} {C dx : Addr} {fs : List (Str × V)} {xs : List V} (k : KeepX x H H') (hx : H x = some (.ins C dx fs)) (h : Rd H b (.tup xs)) : Rd H' b (.tup xs) := by
  rcases h with h | ⟨o, h⟩
  · exact .inl (k _ _ (ne_of h hx (fun z => nomatch z)) h)
  · exact .inr ⟨o, k _ _ (ne_of h hx (fun z => nomatch z)) h⟩
theorem KeepX.tame {x : Addr} {H H' : Hp} {C dx : Addr} {fs : List (Str × V)} (k : KeepX x H H') (hx : H x = some (.ins C dx fs)) : Tame H H' :=
  ⟨fun b xs h => k _ _ (ne_of h hx (fun z => nomatch z)) h, fun b o u h => k _ _ (ne_of h hx (fun z => nomatch z)) h⟩
theorem KeepX.fld {x : Addr} {H H1 H' : Hp} {o : HO} (k : KeepX x H H1) (s : Same H1 H') : KeepX x H (upd H' x o) := fun c o hc ho => by
  rw [upd_ne hc]
  exact s _ _ (k c o hc ho)
theorem ok_kinit {fdA : FuncData} (S : SupD P K mg "__init__" "Knot.__init__" (defArgs s_Knot___init__) (defBody s_Knot___init__) (defScope s_Knot___init__) C fA f fd) (FA : FnOk P w K mg base CX0 1 fA fdA ["self", "machine"] (sp_ainit K C)) (bA : Binds K fdA ["self", "machine"] []) (T : Bt mg) (cR : KCl K C)
    (F_copiedF : Fo P w K mg base "copied" ["value"] 2 sp_cpF) (F_copiedW : Fo P w K mg base "copied" ["value"] 2 sp_cpW) (F_copiedP : Fo P w K mg base "copied" ["value"] 5 sp_cpP) : FnOk P w K mg base CX0 6 f fd ["self", "machine", "states", "words", "products"] (sp_kinit C) := by
  refine sup_ok (N := ["self", "machine", "states", "words", "products", "__class__"]) (i := 1) S (nscope_by (by decide +kernel)) FA bA rfl rfl rfl rfl rfl (by decide) (by decide) (by decide) (fun _ _ _ => rfl) (fun _ _ _ => rfl) (fun _ _ _ => ⟨_, rfl⟩) (fun vs H Q E h => ?_) (fun cc cda A outer s H vs Q E hr h => ?_)
  · obtain ⟨x, dx, b, v, vw, vp, ns, ws, ps, rfl, _⟩ := h
    rfl
  · obtain ⟨x, dx, b, v, vw, vp, ns, ws, ps, rfl, hx, hz, hb, hw, hwl, hp, q⟩ := h
    refine ⟨x, dx, [], v, _, rfl, hx, rfl, PSs.nox (pss_cons (ps_fld (pv 0) (pc F_copiedF hr (by rfl) (pa_cons (pv 2) pa_nil)) rfl) (pss_cons (ps_fld (pv 0) (pc F_copiedW hr (by rfl) (pa_cons (pv 3) pa_nil)) rfl) (pss_one (ps_fld (pv 0) (pc F_copiedP hr (by rfl) (pa_cons (pv 4) pa_nil)) rfl)))), fun p np => ?_⟩
    have hxp : x ≠ p := ne_of_none hx np
    refine ⟨x, dx, v, rfl, by rw [upd_ne hxp]; exact hx, ?_⟩
    have k1 : KeepX x H (upd (upd H p (.met fA x)) x (.ins C dx [("machine", v)])) := fun c o hc ho => by
      rw [upd_ne hc, upd_ne (ne_of_none ho np)]
      exact ho
    refine ⟨_, rfl, .ref b, ns, rfl, hz, ⟨b, rfl, k1.rd hx hb⟩, fun H2 v2 s2 h2 => ?_⟩
    obtain ⟨a, o, rfl, h2a, hdn⟩ := h2
    have h2x := s2 _ _ upd_same
    refine ⟨_, rfl, x, C, dx, _, rfl, h2x, cR.cls, cR.a2, by show 1 < 1000; decide, ?_⟩
    have k3 := k1.fld (o := .ins C dx (putF "states" (.ref a) [("machine", v)])) s2
    have h3a : (upd H2 x (.ins C dx (putF "states" (.ref a) [("machine", v)]))) a = some (.frz o (.tup (tI ns))) := by rw [upd_ne (ne_of h2a h2x (fun z => nomatch z))]; exact h2a
    refine ⟨_, rfl, vw, ws, rfl, hwl, stab_str.tup _ _ _ _ (k3.tame hx) hw, fun H4 vw' s4 h4w => ?_⟩
    have h4x := s4 _ _ upd_same
    refine ⟨_, rfl, x, C, dx, _, rfl, h4x, cR.cls, cR.a3, by show 2 < 1000; decide, ?_⟩
    have k5 := k3.fld (o := .ins C dx (putF "words" vw' (putF "states" (.ref a) [("machine", v)]))) s4
    have t5 : Tame H4 (upd H4 x (.ins C dx (putF "words" vw' (putF "states" (.ref a) [("machine", v)])))) := Tame.upd (by rw [h4x]; trivial)
    refine ⟨_, rfl, vp, ps, rfl, stab_pr _ _ _ _ (k5.tame hx) hp, fun H6 vp' s6 h6p => ?_⟩
    have h6x := s6 _ _ upd_same
    refine ⟨_, rfl, x, C, dx, _, rfl, h6x, cR.cls, cR.a4, by show 3 < 1000; decide, ?_⟩
    have t7 : Tame H6 (upd H6 x (.ins C dx (putF "products" vp' (putF "words" vw' (putF "states" (.ref a) [("machine", v)]))))) := Tame.upd (by rw [h6x]; trivial)
    refine q _ a o vw' vp' (k5.fld s6) ?_ ?_ hdn ?_ ?_
    · rw [upd_same]
      rfl
    · exact t7.2 _ _ _ (s6 _ _ (t5.2 _ _ _ (s4 _ _ h3a)))
    · exact stab_str.tup _ _ _ _ ((t5.trans (Tame.of s6)).trans t7) h4w
    · exact stab_pr _ _ _ _ t7 h6p
end
end Kn
/-! M2 -/
set_option maxHeartbeats 1000000
namespace Kn
open PySem PySem.Spec PyProof.Rows L2
def rowOf (M : Mc) (ss w : List Nat) : List Nat := ss.map fun s => M.run s w
def mk (M : Mc) (ss w : List Nat) : List Nat := (rowOf M ss w).map fun s => ss.idxOf s
section
variable {M : Mc} {ss w : List Nat}
theorem mk_isP (hn : ss.Nodup) (hp : (rowOf M ss w).Perm ss) : IsP ss.length (mk M ss w) := by
  unfold mk
  have hin : ∀ x ∈ rowOf M ss w, x ∈ ss := fun x hx => hp.mem_iff.mp hx
  refine ⟨by rw [List.length_map, hp.length_eq], map_nodup (hp.nodup_iff.mpr hn) fun x hx y hy e => ?_, fun x hx => ?_⟩
  · have h1 := idx_get (hin x hx)
    have h2 := idx_get (hin y hy)
    have e : ss.idxOf x = ss.idxOf y := e
    rw [e, h2] at h1
    exact (Option.some.inj h1).symm
  · obtain ⟨y, hy, rfl⟩ := List.mem_map.mp hx
    exact List.idxOf_lt_length_of_mem (hin y hy)
theorem mk_get {i s : Nat} (h : ss[i]? = some s) : (mk M ss w)[i]? = some (ss.idxOf (M.run s w)) := by
  unfold mk rowOf
  rw [List.getElem?_map, List.getElem?_map, h]
  rfl
theorem mk_at (hp : (rowOf M ss w).Perm ss) {i s x : Nat} (h : ss[i]? = some s) (hx : (mk M ss w)[i]? = some x) : ss[x]? = some (M.run s w) := by
  rw [mk_get h] at hx
  cases hx
  exact idx_get (hp.mem_iff.mp (List.mem_map.mpr ⟨s, List.mem_of_getElem? h, rfl⟩))
theorem getD_some {l : List Nat} {i x : Nat} (h : l[i]? = some x) : l.getD i 0 = x := by
  rw [List.getD_eq_getElem?_getD, h]
  rfl
theorem some_getD {l : List Nat} {i : Nat} (h : i < l.length) : l[i]? = some (l.getD i 0) := by
  rw [List.getD_eq_getElem?_getD, List.getElem?_eq_getElem h]
  rfl
theorem ring_next {n L : Nat} {p r : List Nat} (R : RingOf n p r) (hL : r.length = L) (i : Nat) : p[r.getD (i % L) 0]? = some (r.getD ((i + 1) % L) 0) := by
  have hpos : 0 < L := by rw [← hL]; exact R.pos
  have hlt := Nat.mod_lt i hpos
  by_cases h : i % L + 1 < L
  · have e : (i + 1) % L = i % L + 1 := by rw [Nat.add_mod, Nat.mod_eq_of_lt (a := 1) (by omega), Nat.mod_eq_of_lt h]
    rw [e]
    exact R.next _ _ _ (some_getD (by omega)) (some_getD (by omega))
  · have e1 : i % L = L - 1 := by omega
    have e : (i + 1) % L = 0 := by
      by_cases h1 : L = 1
      · rw [h1]; exact Nat.mod_one _
      · rw [Nat.add_mod, e1, Nat.mod_eq_of_lt (a := 1) (by omega), show L - 1 + 1 = L by omega, Nat.mod_self]
    rw [e, e1]
    exact R.last _ _ (by rw [hL]; exact some_getD (by omega)) (some_getD (by omega))
theorem ring_turn {r q : List Nat} {g m : Nat} (hp : (rowOf M ss w).Perm ss) (hn : ss.Nodup) (R : RingOf ss.length (mk M ss w) r) (hg : 1 ≤ g) (hm : 1 ≤ m) (hl : r.length = m * g) (hq : q.length = m) (hqi : ∀ i, i < m → q[i]? = r[i * g]?) :
    (q.map fun x => ss.getD x 0).map (fun s => M.run s (List.replicate g w).flatten) = (q.map fun x => ss.getD x 0).drop 1 ++ (q.map fun x => ss.getD x 0).take 1 ∧ (q.map fun x => ss.getD x 0).Nodup ∧ ∀ s ∈ (q.map fun x => ss.getD x 0), s ∈ ss := by
  have hpos : 0 < m * g := by rw [← hl]; exact R.pos
  have hlt : ∀ i, r.getD (i % (m * g)) 0 < ss.length := fun i => R.lt _ (List.mem_of_getElem? (some_getD (by rw [hl]; exact Nat.mod_lt i hpos)))
  have step1 : ∀ i, M.run (ss.getD (r.getD (i % (m * g)) 0) 0) w = ss.getD (r.getD ((i + 1) % (m * g)) 0) 0 := fun i => by
    have h1 := mk_at hp (some_getD (hlt i)) (ring_next R hl i)
    exact (getD_some h1).symm
  have stepg : ∀ (k i : Nat), M.run (ss.getD (r.getD (i % (m * g)) 0) 0) (List.replicate k w).flatten = ss.getD (r.getD ((i + k) % (m * g)) 0) 0 := by
    intro k
    induction k with
    | zero => intro i; rfl
    | succ k ih =>
      intro i
      rw [List.replicate_succ, List.flatten_cons, Mc.run_app, step1, ih, show i + 1 + k = i + (k + 1) by omega]
  have hat : ∀ j, j < m → q[j]? = some (r.getD (j * g % (m * g)) 0) := fun j hj => by
    have h1 : j * g < m * g := (Nat.mul_lt_mul_right (by omega)).mpr hj
    rw [hqi j hj, Nat.mod_eq_of_lt h1]
    exact some_getD (by rw [hl]; exact h1)
  have hat2 : ∀ j, j < m → (q.map fun x => ss.getD x 0)[j]? = some (ss.getD (r.getD (j * g % (m * g)) 0) 0) := fun j hj => by
    rw [List.getElem?_map, hat j hj]
    rfl
  have hlen : (q.map fun x => ss.getD x 0).length = m := by rw [List.length_map, hq]
  have hqn : q.Nodup := by
    refine List.nodup_iff_pairwise_ne.mpr (List.pairwise_iff_getElem.mpr fun i j hi hj hij e => ?_)
    have h1 := hat i (by omega)
    have h2 := hat j (by omega)
    rw [List.getElem?_eq_getElem hi] at h1
    rw [List.getElem?_eq_getElem hj] at h2
    have a1 : i * g < m * g := (Nat.mul_lt_mul_right (by omega)).mpr (by omega)
    have a2 : j * g < m * g := (Nat.mul_lt_mul_right (by omega)).mpr (by omega)
    rw [Nat.mod_eq_of_lt a1] at h1
    rw [Nat.mod_eq_of_lt a2] at h2
    have e1 : r.getD (i * g) 0 = r.getD (j * g) 0 := by rw [← Option.some.inj h1, ← Option.some.inj h2]; exact e
    have := nodup_get_inj R.nd (some_getD (l := r) (by rw [hl]; exact a1)) (by rw [e1]; exact some_getD (by rw [hl]; exact a2))
    have := Nat.eq_of_mul_eq_mul_right (by omega) this
    omega
  have hqlt : ∀ x ∈ q, x < ss.length := fun x hx => by
    obtain ⟨j, hj, rfl⟩ := List.getElem_of_mem hx
    have h1 := hat j (by omega)
    rw [List.getElem?_eq_getElem hj] at h1
    rw [Option.some.inj h1]
    exact hlt _
  refine ⟨?_, map_nodup hqn fun x hx y hy e => ?_, fun s hs => ?_⟩
  · apply List.ext_getElem?
    intro j
    rw [List.getElem?_map]
    by_cases hj : j < m
    · rw [hat2 j hj]
      show some (M.run _ _) = _
      rw [stepg, show j * g + g = (j + 1) * g by rw [Nat.add_mul, Nat.one_mul]]
      by_cases hj1 : j + 1 < m
      · rw [List.getElem?_append_left (by rw [List.length_drop, hlen]; omega), List.getElem?_drop, Nat.add_comm 1 j, hat2 (j + 1) hj1]
      · have e : j + 1 = m := by omega
        rw [List.getElem?_append_right (by rw [List.length_drop, hlen]; omega), List.length_drop, hlen, show j - (m - 1) = 0 by omega, List.getElem?_take_of_lt (by omega), hat2 0 (by omega), e, Nat.mod_self, Nat.zero_mul, Nat.zero_mod]
    · rw [List.getElem?_eq_none (by rw [hlen]; omega), List.getElem?_eq_none (by rw [List.length_append, List.length_drop, List.length_take, hlen]; omega)]
      rfl
  · exact nodup_get_inj hn (some_getD (hqlt x hx)) (by rw [show ss.getD x 0 = ss.getD y 0 from e]; exact some_getD (hqlt y hy))
  · obtain ⟨x, hx, rfl⟩ := List.mem_map.mp hs
    exact List.mem_of_getElem? (some_getD (hqlt x hx))
end
end Kn
/-! G14 -/
set_option maxHeartbeats 1000000
namespace Kn
open PySem PySem.Spec PyProof.Rows L2
theorem sc_need_primes : FnScope ["primes", "prime"] ["primes"] (defScope s_need_primes) := ⟨rfl, rfl, rfl, by decide +kernel, rfl, by decide +kernel, by decide +kernel⟩
theorem sc_ring_of : FnScope ["machine", "states", "words", "primes", "row", "word", "ring", "size", "gap", "at"] ["machine", "states", "words", "primes"] (defScope s_ring_of) := ⟨rfl, rfl, rfl, by decide +kernel, rfl, by decide +kernel, by decide +kernel⟩
/-- what the making of a class promises -/
structure Ma (P : Program) (w : World) (K : Fr) (mg : Str → Option Value) (base : Heap) (x : Str) (C : Addr) (ps : List Str) (k : Nat) (sp : Sp) : Prop where
  ex : ∃ f fd, FnOk P w K mg base CX0 k f fd ps sp ∧ Binds K fd ps [] ∧ Mk K C f
  g : mg x = some (.ref C)
theorem pmk {X : Cx} {x : Str} {C : Addr} {ps : List Str} {j k : Nat} {sp : Sp} {e : Expr} {es : List Expr} {t : TA} {p pos : Pos} (F : Ma X.prog X.w X.K X.mg X.base x C ps j sp) (hr : Room k X.A) (hg : Gl X x) (ha : PA X (e :: es) t) (hjk : j + 1 ≤ k := by first | decide | exact Nat.le_refl _)
    (hdb : (x == ("__debug__" : Str)) = false := by decide) (he : starEach (e :: es) X.env = (false, eval e X.env) :: starEach es X.env := by rfl) (hpl : (backTo pos (starEach es X.env)).any (·.1) = false := by rfl) :
    PE X (.Call (.Name x p) (e :: es) [] pos) (tMake C sp [] E0 t) := by
  obtain ⟨f, fd, G, b, m⟩ := F.ex
  exact pe_make m G (hr.mono hjk) hg F.g b .nil pass0 ha hdb he hpl
def sp_needpr : Sp := fun vs H Q _ => ∃ (a : Addr) (ps : List Nat), vs = [.ref a] ∧ H a = some (.tup (tI ps)) ∧ (∀ p ∈ ps, prm p = true ∧ p ≤ 8) ∧ ∀ H', Same H H' → Q .non H'
/-- a ring against some primes -/
structure RingA (M : Mc) (ss ps wd ns : List Nat) : Prop where
  wdk : ∀ i ∈ wd, i < M.k
  wl : wd.length ≤ 1000000
  nd : ns.Nodup
  sub : ∀ s ∈ ns, s ∈ ss
  pr : prm ns.length = true
  no : ns.length ∉ ps
  rot : (ns.map fun s => M.run s wd) = ns.drop 1 ++ ns.take 1
/-- x is a ring -/
def IsRing (C : Addr) (H : Hp) (x : Addr) (v : V) (wd ns : List Nat) : Prop := ∃ dx a o, H x = some (.ins C dx [("machine", v), ("word", .str (txt wd)), ("states", .ref a)]) ∧ H a = some (.frz o (.tup (tI ns))) ∧ o.dict = none
def sp_ringof (P : Program) (w : World) (CM CR : Addr) : Sp := fun vs H Q _ => ∃ (v sv : V) (M : Mc) (ss ps : List Nat) (d vp : Addr) (l : Rw), vs = [v, sv, .ref d, .ref vp] ∧ IsM CM H v M ∧ TupF H sv ss ∧ St M ss ∧ DZ P w H d (gS l) ∧ Tw M ss l ∧ H vp = some (.tup (tI ps)) ∧
  (∀ H', Same H H' → Q .non H') ∧ ∀ H' x wd ns, Same H H' → IsRing CR H' x v wd ns → RingA M ss ps wd ns → Q (.ref x) H'
section
variable {P : Program} {w : World} {K : Fr} {mg : Str → Option Value} {base : Heap} {fd : FuncData} {f CM CR : Addr}
theorem ok_needpr (F0 : FnP K "need_primes" s_need_primes f fd) (T : Bt mg) (Cn : Ct mg) (F_is_prime : Fo P w K mg base "is_prime" ["value", "most"] 2 sp_prime) : FnOk P w K mg base CX0 3 f fd ["primes"] sp_needpr := by
  refine F0.ok sc_need_primes (fun vs H Q E h => ?_) (fun cdv A outer s H vs Q E hr h => ?_)
  · obtain ⟨a, ps, rfl, _⟩ := h
    rfl
  · obtain ⟨a, ps, rfl, ha, hp, q⟩ := h
    refine ⟨_, PSs.nox (pss_one (ps_for PassesOwn.never rfl (piT K (pv 0)) (pg_name (i := 1) sc_need_primes.nd rfl (Or.inl rfl))
  (pss_one (ps_if (pt_not (pt_val (pc F_is_prime hr (by rfl) (pa_cons (pv 1) (pa_cons (pe_globE Cn.MOST_PRIME_build (by rfl)) pa_nil))))) (pss_one ps_never) pss_nil)))), ?_⟩
    refine ⟨_, rfl, a, rfl, ⟨_, SqT.of ha⟩, ?_⟩
    refine for_wk (wk_tup (K := K) (SqT.of ha)) (fun i σ H' => Same H H' ∧ ∃ v1, σ = [some (.ref a), v1]) ⟨Same.refl _, none, rfl⟩ (fun i σ H h => h.1) ?_ ?_
    · rintro i v σ H3 H4 hi ⟨s3, v1, rfl⟩ s34 hx
      obtain ⟨x, hx', rfl⟩ := tI_get hx
      obtain ⟨h1, h2⟩ := hp x (List.mem_of_getElem? hx')
      refine ⟨_, rfl, x, 97, rfl, h2, by omega, _, rfl, ?_⟩
      rw [h1]
      exact iteF ⟨s3.trans s34, _, rfl⟩
    · rintro σ H3 ⟨s3, v1, rfl⟩
      exact q _ s3
theorem ok_ringof (F0 : FnP K "ring_of" s_ring_of f fd) (T : Bt mg) (F_is_prime : Fo P w K mg base "is_prime" ["value", "most"] 2 sp_prime) (F_inner : Fo P w K mg base "inner" ["states", "turn"] 1 sp_inner) (F_rings_in : Fo P w K mg base "rings_in" ["turn"] 1 sp_rings)
    (F_Ring : Ma P w K mg base "Ring" CR ["self", "machine", "word", "states"] 4 (sp_rinit CR)) : FnOk P w K mg base CX0 6 f fd ["machine", "states", "words", "primes"] (sp_ringof P w CM CR) := by
  refine F0.ok sc_ring_of (fun vs H Q E h => ?_) (fun cdv A outer s H vs Q E hr h => ?_)
  · obtain ⟨v, sv, M, ss, ps, d, vp, l, rfl, _⟩ := h
    rfl
  · obtain ⟨v, sv, M, ss, ps, d, vp, l, rfl, hM, hs, S, hZ, hT, hvp, qn, qr⟩ := h
    refine ⟨_, PSs.nox (pss_cons (ps_for PassesOwn.never rfl (pi_itemsZ P w (pv 2)) (pg_tupK K rfl (pgs_cons (pg_name (i := 4) sc_ring_of.nd rfl (Or.inl rfl)) (pgs_cons (pg_name (i := 5) sc_ring_of.nd rfl (Or.inl rfl)) pgs_nil)))
  (pss_one (ps_for PassesOwn.never rfl (piL K (pc F_rings_in hr (by rfl) (pa_cons (pc F_inner hr (by rfl) (pa_cons (pv 1) (pa_cons (pv 4) pa_nil))) pa_nil))) (pg_name (i := 6) sc_ring_of.nd rfl (Or.inl rfl))
  (pss_one (ps_for PassesOwn.never rfl (pi_range2 (by rfl) T.range (pa_cons pe_int (pa_cons (pe_op op_add (pe_callB (callLenSeq K) (by rfl) T.len PySem.boot_len (pa_cons (pv 6) pa_nil)) pe_int) pa_nil))) (pg_name (i := 7) sc_ring_of.nd rfl (Or.inl rfl))
  (pss_one (ps_if (PW.pt (pw_and (pt_cmpR op_eq (pe_op op_mod (pe_callB (callLenSeq K) (by rfl) T.len PySem.boot_len (pa_cons (pv 6) pa_nil)) (pv 7)) pe_int (nomark _)) (pw_and (pt_val (pc F_is_prime hr (by rfl) (pa_cons (pv 7) (pa_cons (pv 7) pa_nil)))) (pw_and1 (pt_cmpR (opNotInSeq K) (pv 7) (pv 3) (by rfl)))))) (pss_cons (ps_set (i := 8) sc_ring_of.nd rfl (Or.inl rfl) (pe_op op_fdiv (pe_callB (callLenSeq K) (by rfl) T.len PySem.boot_len (pa_cons (pv 6) pa_nil)) (pv 7)))
  (pss_one (ps_ret (pmk F_Ring hr (by rfl) (pa_cons (pv 0) (pa_cons (pe_op op_repS (pv 5) (pv 8)) (pa_cons (pe_callTy (callTupOf K) (by rfl) T.tuple (by decide +kernel) (pa_cons (pe_lc (own := [("at", 9)]) (g := gName 9) (tt := tYes) rfl sc_ring_of.nd (piL K (pe_stepL K (pv 6) (pv 8)))
  (blkOk_by (N := ["machine", "states", "words", "primes", "row", "word", "ring", "size", "gap", "at"]) (sc := defScope s_ring_of) (by decide +kernel)) (fun _ _ _ _ _ => pg_name (i := 9) sc_ring_of.nd rfl (Or.inl rfl)) (fun _ _ _ _ _ => pts_nil) (fun _ _ _ _ _ => (pe_ix (ixT K) (pv 1) (pv 9) (fun _ _ => rfl)))) pa_nil)) pa_nil))))))) pss_nil)))))))
  (pss_one (ps_ret pe_non))), ?_⟩
    obtain ⟨ok, _⟩ := id hM
    obtain ⟨od, hZo⟩ := id hZ
    have hS := S.nd
    refine ⟨_, rfl, d, od, _, rfl, hZo, ?_⟩
    refine for_wk (wk_itemsZ hZo) (fun i σ H' => Same H H' ∧ ∃ v4 v5 v6 v7 v8, σ = [some v, some sv, some (.ref d), some (.ref vp), v4, v5, v6, v7, v8, none]) ⟨Same.refl _, none, none, none, none, none, rfl⟩ (fun i σ H h => h.1) ?_ ?_
    · rintro i x σ H3 H4 hi ⟨s3, v4, v5, v6, v7, v8, rfl⟩ s34 ⟨t, k, vw, qa, hkv, rfl, ht, hqa⟩
      obtain ⟨pl, hpl, rfl, rfl⟩ : ∃ pl ∈ l, k = kN pl.1 ∧ vw = .str (txt pl.2) := by
        have hm := List.mem_of_getElem? hkv
        unfold gS gT toV at hm
        rw [List.map_map] at hm
        obtain ⟨pl, hpl, e⟩ := List.mem_map.mp hm
        cases e
        exact ⟨pl, hpl, rfl, rfl⟩
      rw [kN_kV] at hqa
      have s4 := s3.trans s34
      obtain ⟨hw1, hw2, hw3, hw4⟩ := hT.ok pl hpl
      have hp : (rowOf M ss pl.2).Perm ss := by unfold rowOf; rw [← hw2]; exact hw3
      have hisP := mk_isP hS hp
      refine ⟨t, _, rfl, SqT.of ht, rfl, _, _, rfl, _, _, rfl, rfl, ?_⟩
      refine ⟨_, rfl, _, rfl, qa, sv, ss, pl.1, rfl, hs.same s4, hqa, by rw [hw3.length_eq]; have := S.few; omega, fun s hs' => hw3.mem_iff.mp hs', fun H5 c5 n5 s5 hc5 => ?_⟩
      have e5 : (pl.1.map fun s => ss.idxOf s) = mk M ss pl.2 := by unfold mk rowOf; rw [← hw2]
      rw [e5] at hc5
      refine ⟨c5, ss.length, _, rfl, hc5, hisP, S.few, fun H6 r6 vrs n6 s6 hr6 hrs => ?_⟩
      have s46 := s5.trans s6
      refine ⟨r6, rfl, ⟨_, SqL.of hr6⟩, ?_⟩
      refine for_wk (wk_lst (K := K) (SqL.of hr6)) (fun j σ H' => Same H6 H' ∧ ∃ v6 v7 v8, σ = [some v, some sv, some (.ref d), some (.ref vp), some (.ref qa), some (.str (txt pl.2)), v6, v7, v8, none]) ⟨Same.refl _, _, _, _, rfl⟩ (fun i σ H h => h.1) ?_ ?_
      · rintro j y σ H7 H8 hj ⟨s7, v6, v7, v8, rfl⟩ s78 hy
        obtain ⟨b, r, rfl, hb, R⟩ := hrs y (List.mem_of_getElem? hy)
        have s68 := s7.trans s78
        have s8 := (s4.trans s46).trans s68
        have hb8 := s68 _ _ hb
        have hrl : r.length ≤ 6 := by
          have := len_sub (m := List.range ss.length) R.nd fun x hx => List.mem_range.mpr (R.lt x hx)
          rw [List.length_range] at this
          have := S.few
          omega
        have hb6 : r.length + 1 < 100 := by omega
        refine ⟨_, rfl, b, _, rfl, .inl (SqL.of hb8), _, _, rfl, rfl, 2, _, rfl, ⟨by omega, by omega, by rw [tI_len]; omega, by rw [tI_len]; omega⟩, ?_⟩
        refine for_wk (wk_rng (H0 := H8)) (fun j σ H' => Same H8 H' ∧ ∃ v7 v8, σ = [some v, some sv, some (.ref d), some (.ref vp), some (.ref qa), some (.str (txt pl.2)), some (.ref b), v7, v8, none]) ⟨Same.refl _, _, _, rfl⟩ (fun i σ H h => h.1) ?_ ?_
        · rintro k z σ H9 H10 hk ⟨s9, v7, v8, rfl⟩ s910 rfl
          have s810 := s9.trans s910
          have hb10 := s810 _ _ hb8
          have s10 := s8.trans s810
          rw [tI_len] at hk
          have hk6 : 2 + k ≤ r.length := by omega
          rw [show ((2 : Int) + (k : Int)) = ((2 + k : Nat) : Int) by omega]
          generalize hsz : 2 + k = size at hk6
          have hsz2 : 2 ≤ size := by omega
          refine ⟨_, rfl, b, _, rfl, .inl (SqL.of hb10), _, rfl, _, _, rfl, rfl, (by show (0 : Int) < (size : Int); omega), rfl, _, rfl, ?_⟩
          rw [tI_len]
          by_cases hd : r.length % size = 0
          · have e1 : (decide (V.int ((r.length : Int) % (size : Int)) = V.int 0)) = true := decide_eq_true (by
              rw [show ((r.length : Int) % (size : Int)) = ((r.length % size : Nat) : Int) from (Int.natCast_emod _ _).symm, hd]
              rfl)
            rw [e1]
            refine iteT ?_
            refine ⟨_, rfl, _, rfl, size, (size : Int), rfl, by omega, Int.le_refl _, _, rfl, ?_⟩
            by_cases hpr : prm size = true
            · rw [hpr]
              refine iteT ?_
              refine ⟨_, rfl, _, rfl, vp, tI ps, rfl, .inr (SqT.of (s10 _ _ hvp)), rfl, tI_flat _, _, rfl, ?_⟩
              rw [inV_tI]
              by_cases hin : size ∈ ps
              · rw [decide_eq_true hin]
                exact iteF ⟨s810, _, _, rfl⟩
              · rw [decide_eq_false hin]
                refine iteT ?_
                obtain ⟨g, hg⟩ : ∃ g, r.length = size * g := ⟨r.length / size, (Nat.mul_div_cancel' (Nat.dvd_of_mod_eq_zero hd)).symm⟩
                have hg1 : 1 ≤ g := by
                  rcases Nat.eq_zero_or_pos g with z | z
                  · rw [z] at hg; omega
                  · exact z
                have hg3 : g ≤ 3 := by
                  have : 2 * g ≤ size * g := Nat.mul_le_mul_right _ hsz2
                  omega
                have eg : ((r.length : Int) / (size : Int)) = (g : Int) := by
                  rw [← Int.natCast_ediv, hg, Nat.mul_div_cancel_left _ (by omega)]
                refine ⟨_, rfl, b, _, rfl, .inl (SqL.of hb10), _, rfl, _, _, rfl, rfl, ⟨by show (0 : Int) < (size : Int); omega, by show (size : Int) < 1073741824; omega⟩, ?_⟩
                show gName 8 (V.int (((tI r).length : Int) / (size : Int))) _ _ _
                rw [tI_len, eg]
                have hwl : pl.2.length * g ≤ 1000000 := Nat.le_trans (Nat.mul_le_mul hw4 hg3) (by decide)
                refine ⟨_, rfl, _, rfl, _, rfl, pl.2, g, rfl, rfl, hg1, by omega, hwl, ?_⟩
                refine ⟨_, rfl, b, tI r, rfl, SqL.of hb10, _, rfl, (g : Int), rfl, rfl, g, size, rfl, hg1, by rw [tI_len]; exact hg, fun q ys nq hyl hyi => ?_⟩
                refine ⟨q, rfl, ⟨_, SqL.of upd_same⟩, fun D hD => ?_⟩
                obtain ⟨q', hq', hqi⟩ : ∃ q' : List Nat, q'.length = size ∧ ∀ i, i < size → q'[i]? = r[i * g]? := by
                  refine ⟨(List.range size).map fun i => r.getD (i * g) 0, by rw [List.length_map, List.length_range], fun i hi => ?_⟩
                  have h1 : i * g < r.length := by rw [hg]; exact (Nat.mul_lt_mul_right (by omega)).mpr hi
                  rw [List.getElem?_map, range_get hi, some_getD h1]
                  rfl
                have eys : ys = tI q' := eq_tI (by rw [hyl, hq']) fun i y hy => by
                  have hi : i < size := by rw [← hyl]; exact (List.getElem?_eq_some_iff.mp hy).1
                  rw [hyi i hi] at hy
                  obtain ⟨x, hx, rfl⟩ := tI_get hy
                  exact ⟨x, by rw [hqi i hi]; exact hx, rfl⟩
                subst eys
                obtain ⟨hrot, hnd, hsub⟩ := ring_turn hp hS R hg1 (by omega) hg hq' hqi
                have hq'lt : ∀ x ∈ q', x < ss.length := fun x hx => by
                  obtain ⟨i, hi, rfl⟩ := List.getElem_of_mem hx
                  have h1 := hqi i (by omega)
                  rw [List.getElem?_eq_getElem hi] at h1
                  exact R.lt _ (List.mem_of_getElem? h1.symm)
                obtain ⟨a0, o0, rfl, h0, hd0⟩ := hs
                have s11 : Same H10 (upd H10 q (.lst (tI q'))) := same_upd nq
                generalize hH11 : upd H10 q (.lst (tI q')) = H11 at s11 hD
                have h11q : H11 q = some (.lst (tI q')) := by rw [← hH11]; exact upd_same
                refine lc_vals (fun i => V.int ((ss.getD (q'.getD i 0) 0 : Nat) : Int)) (wk_lst (K := K) (SqL.of h11q)) hD (by rw [tI_len]; omega) (fun i σ2 _ => ∃ x : Nat, q'[i]? = some x ∧ ∃ v7 v8, σ2 = [some v, some (.ref a0), some (.ref d), some (.ref vp), some (.ref qa), some (.str (txt pl.2)), some (.ref b), v7, v8, some (.int (x : Int))]) (fun i x H' Q' hi sm hx kk => ?_) ?_ ?_
                · obtain ⟨y, hy, rfl⟩ := tI_get hx
                  exact kk _ rfl ⟨y, hy, _, _, rfl⟩
                · rintro i σ2 H' hi sm ⟨x, hx, w7, w8, rfl⟩ Q' q2
                  refine ⟨_, rfl, _, rfl, a0, tI ss, (x : Int), .int ((ss.getD x 0 : Nat) : Int), rfl, rfl, .inl (.inr ⟨o0, sm _ _ (s11 _ _ (s10 _ _ h0))⟩), atI_nat (tI_at (some_getD (hq'lt x (List.mem_of_getElem? hx)))), q2 _ _ (Same.refl _) ?_⟩
                  rw [getD_of hx]
                · intro H12 s12 hl12
                  rw [tI_len, vals_of (fun x => ss.getD x 0)] at hl12
                  refine ⟨D, _, rfl, .inl ⟨SqL.of hl12, fun p np x dx hx hdx hne => ?_⟩⟩
                  generalize hns : (q'.map fun x => ss.getD x 0) = ns at *
                  have hnl : ns.length = size := by rw [← hns, List.length_map, hq']
                  have s13 : Same H12 (upd H12 p (.tup (tI ns))) := same_upd np
                  have h13p : (upd H12 p (.tup (tI ns))) p = some (.tup (tI ns)) := upd_same
                  generalize hH13 : upd H12 p (.tup (tI ns)) = H13 at s13 h13p hx hdx
                  have sB : Same H13 (upd (upd H13 dx (.own x)) x (.ins CR dx [])) := ((Same.refl H13).upd' hdx).upd' hx
                  refine ⟨x, dx, p, v, (List.replicate g pl.2).flatten, ns, rfl, upd_same, by omega, .inl (sB _ _ h13p), fun H' a o keep hx' ha' hd' => ⟨rfl, ?_⟩⟩
                  have sC : Same H13 H' := fun c u hc => keep c u (fun e => by rw [e, hx] at hc; cases hc) (sB _ _ hc)
                  refine qr H' x _ ns ((s10.trans s11).trans ((s12.trans s13).trans sC)) ⟨dx, a, o, hx', ha', hd'⟩ ⟨fun i hi => ?_, ?_, hnd, hsub, by rw [hnl]; exact hpr, by rw [hnl]; exact hin, hrot⟩
                  · obtain ⟨w', hw', hi'⟩ := List.mem_flatten.mp hi
                    rw [(List.mem_replicate.mp hw').2] at hi'
                    exact hw1 i hi'
                  · rw [List.length_flatten, List.map_replicate, List.sum_replicate_nat, Nat.mul_comm]
                    exact hwl
            · rw [Bool.eq_false_iff.mpr hpr]
              exact iteF (iteF ⟨s810, _, _, rfl⟩)
          · have e1 : (decide (V.int ((r.length : Int) % (size : Int)) = V.int 0)) = false := decide_eq_false fun z => hd (by
              injection z with z
              rw [show ((r.length : Int) % (size : Int)) = ((r.length % size : Nat) : Int) from (Int.natCast_emod _ _).symm] at z
              omega)
            rw [e1]
            exact iteF (iteF ⟨s810, _, _, rfl⟩)
        · rintro σ H9 ⟨s9, v7, v8, rfl⟩
          exact ⟨s68.trans s9, _, _, _, rfl⟩
      · rintro σ H7 ⟨s7, v6, v7, v8, rfl⟩
        exact ⟨(s4.trans s46).trans s7, _, _, _, _, _, rfl⟩
    · rintro σ H3 ⟨s3, v4, v5, v6, v7, v8, rfl⟩
      exact qn _ s3
end
end Kn
/-! G15 -/
set_option maxHeartbeats 1000000
namespace Kn
open PySem PySem.Spec PyProof.Rows L2
theorem sc_knot_of : FnScope ["machine", "states", "words", "group", "many", "makers", "ways", "pairs", "turn", "index", "maker", "steps", "found", "products", "named", "at", "row"] ["machine", "states", "words", "group"] (defScope s_knot_of) := ⟨rfl, rfl, rfl, by decide +kernel, rfl, by decide +kernel, by decide +kernel⟩
def exP (ms : List (List Nat)) (n : Nat) (p : List (List Nat)) : List Nat := exch (along ms n (p.getD 0 [])) (along ms n (p.getD 1 []))
/-- the product of the exchanges of some pairs -/
def prodK (ms : List (List Nat)) (n : Nat) (prs : List (List (List Nat))) : List Nat := prs.foldl (fun acc p => mul acc (exP ms n p)) (still n)
/-- a pair of rows of indexes -/
def OkP (k : Nat) (p : List (List Nat)) : Prop := p.length = 2 ∧ ∀ u ∈ p, ∀ x ∈ u, x < k
structure KnotA (M : Mc) (ss : List Nat) (ws : List (List Nat)) (ps : Prs) : Prop where
  ne : ws ≠ []
  few : ws.length ≤ 46656
  ok : ∀ w ∈ ws, (∀ i ∈ w, i < M.k) ∧ w.length ≤ 300000 ∧ (rowOf M ss w).Perm ss ∧ mk M ss w ≠ still ss.length
  len : ps.length = ws.length
  pr : ∀ (i : Nat) (prs : List (List (List Nat))) (w : List Nat), ps[i]? = some prs → ws[i]? = some w → (∀ p ∈ prs, OkP ws.length p) ∧ prodK (ws.map (mk M ss)) ss.length prs = mk M ss w
def IsKnot (C : Addr) (H : Hp) (x : Addr) (v : V) (ss : List Nat) (ws : List (List Nat)) (ps : Prs) : Prop := ∃ dx a o vw vp, H x = some (.ins C dx [("machine", v), ("states", .ref a), ("words", vw), ("products", vp)]) ∧ H a = some (.frz o (.tup (tI ss))) ∧ o.dict = none ∧ TupOf StrV H vw ws ∧ PrV H vp ps
def sp_knotof (P : Program) (w : World) (CM CK : Addr) : Sp := fun vs H Q _ => ∃ (v sv : V) (M : Mc) (ss : List Nat) (d gl : Addr) (l : Rw) (vls : List V) (gs : List (List Nat)), vs = [v, sv, .ref d, .ref gl] ∧ IsM CM H v M ∧ TupF H sv ss ∧ St M ss ∧ DZ P w H d (gS l) ∧ Tw M ss l ∧
  H gl = some (.lst vls) ∧ TL H vls gs ∧ Grp ss.length gs ∧ (∀ x ∈ gs, ∃ p ∈ l, x = mk M ss p.2) ∧ (∀ x ∈ gs, GenBy (IsEx gs) ss.length x) ∧ 1 < gs.length ∧
  ∀ H' x ws ps, Same H H' → IsKnot CK H' x v ss ws ps → KnotA M ss ws ps → Q (.ref x) H'
/-- what a value of pairs tells -/
def Pv (ms : List (List Nat)) (n : Nat) (H : Hp) (key : List Nat) (v : V) : Prop := ∃ p, PaV H v p ∧ OkP ms.length p ∧ key = exP ms n p
theorem Pv.tame {ms : List (List Nat)} {n : Nat} {H H' : Hp} {key : List Nat} {v : V} (t : Tame H H') (h : Pv ms n H key v) : Pv ms n H' key v := let ⟨p, h1, h2⟩ := h; ⟨p, stab_pa _ _ _ _ t h1, h2⟩
theorem pa_of {H : Hp} {T a b : Addr} {u x : List Nat} (hT : H T = some (.tup [.ref a, .ref b])) (ha : H a = some (.tup (tI u))) (hb : H b = some (.tup (tI x))) (hu : u.length ≤ 50000) (hx : x.length ≤ 50000) : PaV H (.ref T) [u, x] := by
  refine ⟨by show 2 ≤ 50000; decide, T, _, rfl, hT, rfl, fun i v e => ?_⟩
  match i, e with
  | 0, e =>
    cases e
    exact ⟨u, rfl, hu, tup_of.mpr ⟨a, rfl, ha⟩⟩
  | 1, e =>
    cases e
    exact ⟨x, rfl, hx, tup_of.mpr ⟨b, rfl, hb⟩⟩
theorem rel_list {α β : Type} : ∀ (ys : List α) (R : Nat → α → β → Prop), (∀ i y, ys[i]? = some y → ∃ x, R i y x) → ∃ xs : List β, xs.length = ys.length ∧ ∀ i y, ys[i]? = some y → ∃ x, xs[i]? = some x ∧ R i y x
  | [], _, _ => ⟨[], rfl, fun i y h => by simp at h⟩
  | y :: ys, R, h => by
    obtain ⟨x, hx⟩ := h 0 y rfl
    obtain ⟨xs, h1, h2⟩ := rel_list ys (fun i y x => R (i + 1) y x) fun i y' e => h (i + 1) y' (by simpa using e)
    refine ⟨x :: xs, by rw [List.length_cons, List.length_cons, h1], fun i y' e => ?_⟩
    cases i with
    | zero =>
      cases e
      exact ⟨x, rfl, hx⟩
    | succ i =>
      obtain ⟨x', e1, e2⟩ := h2 i y' (by simpa using e)
      exact ⟨x', by simpa using e1, e2⟩
theorem prod_along {ms rows : List (List Nat)} {n : Nat} : ∀ (wv : List Nat) (prs : List (List (List Nat))), prs.length = wv.length → (∀ (j : Nat) (i : Nat) (p : List (List Nat)), wv[j]? = some i → prs[j]? = some p → exP ms n p = rows.getD i []) → ∀ a, prs.foldl (fun acc p => mul acc (exP ms n p)) a = wv.foldl (fun acc i => mul acc (rows.getD i [])) a
  | [], [], _, _, _ => rfl
  | [], _ :: _, h, _, _ => by simp at h
  | _ :: _, [], h, _, _ => by simp at h
  | i :: wv, p :: prs, h, hp, a => by
    rw [List.foldl_cons, List.foldl_cons, hp 0 i p rfl rfl]
    exact prod_along wv prs (by simpa using h) (fun j i' p' e1 e2 => hp (j + 1) i' p' (by simpa using e1) (by simpa using e2)) _
theorem mk_row {M : Mc} {ss w : List Nat} (hp : (rowOf M ss w).Perm ss) : (mk M ss w).map (fun x => ss.getD x 0) = rowOf M ss w := by
  unfold mk
  rw [List.map_map]
  have : (rowOf M ss w).map ((fun x => ss.getD x 0) ∘ fun s => ss.idxOf s) = (rowOf M ss w).map id := List.map_congr_left fun y hy => getD_some (idx_get (hp.mem_iff.mp hy))
  rw [this, List.map_id]
section
variable {P : Program} {w : World} {K : Fr} {mg : Str → Option Value} {base : Heap} {fd : FuncData} {f CM CK : Addr}
theorem ok_knotof (F0 : FnP K "knot_of" s_knot_of f fd) (T : Bt mg) (F_few_makers : Fo P w K mg base "few_makers" ["turns", "many"] 4 sp_few) (F_generated : Fo P w K mg base "generated" ["makers", "many"] 3 sp_generated) (F_exchange : Fo P w K mg base "exchange" ["one", "other"] 2 sp_exchange)
    (F_Knot : Ma P w K mg base "Knot" CK ["self", "machine", "states", "words", "products"] 6 (sp_kinit CK)) : FnOk P w K mg base CX0 8 f fd ["machine", "states", "words", "group"] (sp_knotof P w CM CK) := by
  refine F0.ok sc_knot_of (fun vs H Q E h => ?_) (fun cdv A outer s H vs Q E hr h => ?_)
  · obtain ⟨v, sv, M, ss, d, gl, l, vls, gs, rfl, _⟩ := h
    rfl
  · obtain ⟨v, sv, M, ss, d, gl, l, vls, gs, rfl, hM, hs, S, hZ, hT, hgl, htl, G, hin, hperf, hbig, q⟩ := h
    refine ⟨_, PSs.nox (pss_cons (ps_set (i := 4) sc_knot_of.nd rfl (Or.inl rfl) (pe_callB (callLenSeq K) (by rfl) T.len PySem.boot_len (pa_cons (pv 1) pa_nil)))
  (pss_cons (ps_set (i := 5) sc_knot_of.nd rfl (Or.inl rfl) (pc F_few_makers hr (by rfl) (pa_cons (pv 3) (pa_cons (pv 4) pa_nil))))
  (pss_cons (ps_set (i := 6) sc_knot_of.nd rfl (Or.inl rfl) (pc F_generated hr (by rfl) (pa_cons (pv 5) (pa_cons (pv 4) pa_nil))))
  (pss_cons (ps_set (i := 7) sc_knot_of.nd rfl (Or.inr rfl) pe_dnewT)
  (pss_cons (ps_for PassesOwn.never rfl (piL K (pv 3)) (pg_name (i := 8) sc_knot_of.nd rfl (Or.inl rfl))
  (pss_one (ps_for PassesOwn.never rfl (pi_enumG (by rfl) T.enumerate (pa_cons (pv 5) pa_nil)) (pg_tupK K rfl (pgs_cons (pg_name (i := 9) sc_knot_of.nd rfl (Or.inl rfl)) (pgs_cons (pg_name (i := 10) sc_knot_of.nd rfl (Or.inl rfl)) pgs_nil)))
  (pss_one (ps_expr (pe_dsetdT hr.units (pv 7) (pc F_exchange hr (by rfl) (pa_cons (pv 8) (pa_cons (pv 10) pa_nil))) (pe_tup (pa_cons (pe_dget (hu_of hr) (pv 6) (pv 8) (fun _ _ => rfl)) (pa_cons (pe_tup (pa_cons (pv 9) pa_nil)) pa_nil))) ⟨rfl, rfl, rfl, rfl⟩))))))
  (pss_cons (ps_set (i := 11) sc_knot_of.nd rfl (Or.inr rfl) (pe_callB (cr_sortedTD rfl hr.units) (by rfl) T.sorted PyProof.Rows.Boot.«sorted» (pa_cons (pv 7) pa_nil)))
  (pss_cons (ps_set (i := 12) sc_knot_of.nd rfl (Or.inr rfl) (pc F_generated hr (by rfl) (pa_cons (pv 11) (pa_cons (pv 4) pa_nil))))
  (pss_cons (ps_set (i := 13) sc_knot_of.nd rfl (Or.inl rfl) (pe_callTy (callTupOf K) (by rfl) T.tuple (by decide +kernel) (pa_cons (pe_lc (own := [("maker", 10)]) (g := gName 10) (tt := tYes) rfl sc_knot_of.nd (piL K (pv 5))
  (blkOk_by (N := ["machine", "states", "words", "group", "many", "makers", "ways", "pairs", "turn", "index", "maker", "steps", "found", "products", "named", "at", "row"]) (sc := defScope s_knot_of) (by decide +kernel)) (fun _ _ _ _ _ => pg_name (i := 10) sc_knot_of.nd rfl (Or.inl rfl)) (fun _ _ _ _ _ => pts_nil) (fun _ _ _ _ _ => (pe_callTy (callTupOf K) (by rfl) T.tuple (by decide +kernel) (pa_cons (pe_lc (own := [("at", 15)]) (g := gName 15) (tt := tYes) rfl sc_knot_of.nd (piT K (pe_dget (hu_of hr) (pv 12) (pv 10) (fun _ _ => rfl)))
  (blkOk_by (N := ["machine", "states", "words", "group", "many", "makers", "ways", "pairs", "turn", "index", "maker", "steps", "found", "products", "named", "at", "row"]) (sc := ({ kind := .function, names := [(".0", .local), ("maker", .local), ("tuple", .globalImplicit), ("found", .cell), ("pairs", .cell), ("steps", .cell)], isGenerator := false, isCoroutine := false } : Scope)) (by decide +kernel)) (fun _ _ _ _ _ => pg_name (i := 15) sc_knot_of.nd rfl (Or.inl rfl)) (fun _ _ _ _ _ => pts_nil) (fun _ _ _ _ _ => (pe_dget (hu_of hr) (pv 7) (pe_ix (ixL K) (pv 11) (pv 15) (fun _ _ => rfl)) (fun _ _ => rfl)))) pa_nil)))) pa_nil)))
  (pss_cons (ps_setLc (i := 14) (own := [("maker", 10)]) (g := gName 10) (tt := tYes) rfl sc_knot_of.nd rfl rfl (sw_true rfl rfl rfl (by decide +kernel)) (piL K (pv 5))
  (blkOk_by (N := ["machine", "states", "words", "group", "many", "makers", "ways", "pairs", "turn", "index", "maker", "steps", "found", "products", "named", "at", "row"]) (sc := defScope s_knot_of) (by decide +kernel)) (fun _ _ _ _ _ => pg_name (i := 10) sc_knot_of.nd rfl (Or.inl rfl)) (fun _ _ _ _ _ => pts_nil) (fun _ _ _ _ _ => (pe_callTy (callTupOf K) (by rfl) T.tuple (by decide +kernel) (pa_cons (pe_lc (own := [("at", 15)]) (g := gName 15) (tt := tYes) rfl sc_knot_of.nd (piT K (pv 10))
  (blkOk_by (N := ["machine", "states", "words", "group", "many", "makers", "ways", "pairs", "turn", "index", "maker", "steps", "found", "products", "named", "at", "row"]) (sc := ({ kind := .function, names := [(".0", .local), ("maker", .local), ("tuple", .globalImplicit), ("states", .cell)], isGenerator := false, isCoroutine := false } : Scope)) (by decide +kernel)) (fun _ _ _ _ _ => pg_name (i := 15) sc_knot_of.nd rfl (Or.inl rfl)) (fun _ _ _ _ _ => pts_nil) (fun _ _ _ _ _ => (pe_ix (ixT K) (pv 1) (pv 15) (fun _ _ => rfl)))) pa_nil))))
  (pss_one (ps_ret (pmk F_Knot hr (by rfl) (pa_cons (pv 0) (pa_cons (pv 1) (pa_cons (pe_callTy (callTupOf K) (by rfl) T.tuple (by decide +kernel) (pa_cons (pe_lc (own := [("row", 16)]) (g := gName 16) (tt := tYes) rfl sc_knot_of.nd (piL K (pv 14))
  (blkOk_by (N := ["machine", "states", "words", "group", "many", "makers", "ways", "pairs", "turn", "index", "maker", "steps", "found", "products", "named", "at", "row"]) (sc := defScope s_knot_of) (by decide +kernel)) (fun _ _ _ _ _ => pg_name (i := 16) sc_knot_of.nd rfl (Or.inl rfl)) (fun _ _ _ _ _ => pts_nil) (fun _ _ _ _ _ => (pe_zget P w (hu_of hr) (pv 2) (pv 16) (fun _ _ => rfl)))) pa_nil)) (pa_cons (pv 13) pa_nil)))))))))))))))), ?_⟩
    obtain ⟨a0, o0, rfl, h0, hd0⟩ := id hs
    have hn6 := S.few
    have hn1 : 1 ≤ ss.length := List.length_pos_iff.mpr S.ne
    have hgf : gs.length ≤ 46656 := turns_few hn6 G.nd G.ok
    -- many, makers, ways
    refine ⟨_, rfl, a0, _, rfl, .inr (.inl (.inr ⟨o0, h0⟩)), ?_⟩
    show gName 4 (V.int (((tI ss).length : Nat) : Int)) _ _ _
    rw [tI_len]
    refine ⟨_, rfl, _, rfl, gl, ss.length, vls, gs, rfl, hgl, htl, G.ok, hn6, hgf, fun H1 b1 vms ms n1 s1 hb1 htm hml hms hof => ?_⟩
    refine ⟨_, rfl, _, rfl, b1, ss.length, vms, ms, rfl, hb1, htm, fun m hm => G.ok m (hms m hm).1, hn6, fun H2 d2 l2 n2 s2 hd2 hG2 => ?_⟩
    have hof2 : ∀ t ∈ gs, t ∈ ks l2 := fun t ht => (hof t ht).ind (C := fun t => t ∈ ks l2) hG2.st fun x m hx hm => hG2.cl x hx m hm
    have s02 := s1.trans s2
    -- pairs
    refine fun p7 n7 => ?_
    have s23 : Same H2 (upd H2 p7 (.dT [])) := same_upd n7
    generalize hH3 : upd H2 p7 (.dT []) = H3 at s23
    have h37 : H3 p7 = some (.dT (gT [])) := by rw [← hH3]; exact upd_same
    have s03 := s02.trans s23
    refine ⟨_, rfl, gl, rfl, ⟨vls, SqL.of (s03 _ _ hgl)⟩, ?_⟩
    have hms0 : ∀ m ∈ ms, IsP ss.length m := fun m hm => G.ok m (hms m hm).1
    refine for_wk (wk_lst (K := K) (SqL.of (s02 _ _ hgl))) (fun i σ H' => Same H2 H' ∧ ∃ l5 v8 v9 v10, σ = [some v, some (.ref a0), some (.ref d), some (.ref gl), some (.int (ss.length : Int)), some (.ref b1), some (.ref d2), some (.ref p7), v8, v9, v10, none, none, none, none, none, none] ∧ H' p7 = some (.dT (gT l5)) ∧ (ks l5).Nodup ∧ (∀ p ∈ l5, IsP ss.length p.1 ∧ Pv ms ss.length H' p.1 p.2) ∧ ∀ (j : Nat) (t : List Nat), j < i → gs[j]? = some t → ∀ m ∈ ms, exch t m ∈ ks l5)
      ⟨s23, [], none, none, none, rfl, h37, by simp, fun p hp => (List.not_mem_nil hp).elim, fun j t hj => absurd hj (Nat.not_lt_zero _)⟩ (fun i σ H h => h.1) ?_ ?_
    · rintro i x σ H4 H5 hi ⟨s4, l5, v8, v9, v10, rfl, h47, hnd5, hok5, hcl5⟩ s45 hx
      obtain ⟨t, ht, at_, rfl, hat⟩ := htl.2 i x hx
      have htg := List.mem_of_getElem? ht
      have s25 := s4.trans s45
      have hat5 := (s02.trans s25) _ _ hat
      have hb5 := (s2.trans s25) _ _ hb1
      refine ⟨_, rfl, .ref b1, vms, _, rfl, .lst b1 vms, hb5, ?_⟩
      refine for_wk (wk_enum (H0 := H2) (.lst b1 vms) (s2 _ _ hb1)) (fun i2 σ H' => Same H2 H' ∧ H' at_ = some (.tup (tI t)) ∧ ∃ l5 v9 v10, σ = [some v, some (.ref a0), some (.ref d), some (.ref gl), some (.int (ss.length : Int)), some (.ref b1), some (.ref d2), some (.ref p7), some (.ref at_), v9, v10, none, none, none, none, none, none] ∧ H' p7 = some (.dT (gT l5)) ∧ (ks l5).Nodup ∧ (∀ p ∈ l5, IsP ss.length p.1 ∧ Pv ms ss.length H' p.1 p.2) ∧ (∀ (j : Nat) (t : List Nat), j < i → gs[j]? = some t → ∀ m ∈ ms, exch t m ∈ ks l5) ∧ ∀ (j : Nat) (m : List Nat), j < i2 → ms[j]? = some m → exch t m ∈ ks l5)
        ⟨s25, hat5, l5, _, _, rfl, s45 _ _ h47, hnd5, fun p hp => ⟨(hok5 p hp).1, (hok5 p hp).2.tame (Tame.of s45)⟩, hcl5, fun j m hj => absurd hj (Nat.not_lt_zero _)⟩ (fun i σ H h => h.1) ?_ ?_
      · rintro i2 x2 σ H6 H7 hi2 ⟨s6, h6t, l5, v9, v10, rfl, h67, hnd6, hok6, hcl6, hcl6b⟩ s67 ⟨T2, y2, rfl, hT2, hy2⟩
        obtain ⟨m, hm, am, rfl, ham⟩ := htm.2 i2 y2 hy2
        have hmm := List.mem_of_getElem? hm
        have s27 := s6.trans s67
        have ham7 := (s2.trans s27) _ _ ham
        have hi2m : i2 < ms.length := (List.getElem?_eq_some_iff.mp hm).1
        refine ⟨T2, _, rfl, SqT.of hT2, rfl, _, _, rfl, _, _, rfl, rfl, ?_⟩
        have h77 := s67 _ _ h67
        refine ⟨_, rfl, p7, rfl, .inr ⟨_, .inl h77⟩, ?_⟩
        refine ⟨_, rfl, _, rfl, at_, am, ss.length, t, m, rfl, s67 _ _ h6t, ham7, G.ok t htg, hms0 m hmm, by omega, fun H8 e8 n8 s8 he8 => ?_⟩
        obtain ⟨pw, hpw, hpwt⟩ := List.mem_map.mp (hof2 t htg)
        obtain ⟨_, u, hu, hul, hui, hua⟩ := hG2.ok pw hpw
        obtain ⟨ua, hua', hu8⟩ := hu.same (s27.trans s8)
        have hval : valV (gT l2) (kN t) = some pw.2 := val_gT_some hG2.nd (by rw [← hpwt]; exact hpw)
        have h8d2 := (s27.trans s8) _ _ hd2
        refine ⟨_, rfl, _, rfl, d2, pw.2, rfl, by rw [← hval]; exact DGet.t h8d2 (kN_eq (s8 _ _ (s67 _ _ h6t))), ?_⟩
        have he2 : IsP ss.length (exch t m) := (G.ok t htg).exch (hms0 m hmm)
        have hl5 : l5.length ≤ 46656 := by
          have := turns_few hn6 hnd6 fun p hp => by
            obtain ⟨q', hq', rfl⟩ := List.mem_map.mp hp
            exact (hok6 q' hq').1
          rw [List.length_map] at this
          exact this
        refine ⟨_, rfl, szl (by show 1 ≤ 1000000; decide), fun pi npi => ⟨szl (by show 2 ≤ 1000000; decide), fun pp npp => ?_⟩⟩
        have s9 : Same H8 (upd H8 pi (.tup [V.int (i2 : Int)])) := same_upd npi
        have s10 := s9.trans (same_upd (o := .tup [pw.2, .ref pi]) npp)
        have hpi : (upd (upd H8 pi (.tup [V.int (i2 : Int)])) pp (.tup [pw.2, .ref pi])) pi = some (.tup (tI [i2])) := same_upd npp _ _ upd_same
        have hpp : (upd (upd H8 pi (.tup [V.int (i2 : Int)])) pp (.tup [pw.2, .ref pi])) pp = some (.tup [.ref ua, .ref pi]) := by rw [upd_same, hua']
        generalize hH10 : upd (upd H8 pi (.tup [V.int (i2 : Int)])) pp (.tup [pw.2, .ref pi]) = H10 at s10 hpi hpp
        have s710 := s8.trans s10
        have h107 := s710 _ _ h77
        refine ⟨gT l5, kN (exch t m), e8, h107, rfl, kN_eq (s10 _ _ he8), by rw [gT_len]; exact szl' (by omega), fun v' hv => ?_, fun hnone => ?_⟩
        · have hin5 : exch t m ∈ ks l5 := by
            by_cases z : exch t m ∈ ks l5
            · exact z
            · rw [val_gT_none z] at hv
              cases hv
          refine ⟨s27.trans s710, s710 _ _ (s67 _ _ h6t), l5, _, _, rfl, h107, hnd6, fun p hp => ⟨(hok6 p hp).1, (hok6 p hp).2.tame (Tame.of (s67.trans s710))⟩, hcl6, fun j m' hj hm' => ?_⟩
          rcases Nat.lt_or_ge j i2 with z | z
          · exact hcl6b j m' z hm'
          · have : j = i2 := by omega
            subst this
            rw [hm] at hm'
            cases hm'
            exact hin5
        · have hnin : exch t m ∉ ks l5 := fun z => by
            obtain ⟨p', hp', e'⟩ := List.mem_map.mp z
            rw [← e', val_gT_some hnd6 hp'] at hnone
            cases hnone
          rw [putK_new _ hnone, ← gT_snoc]
          have t11 : Tame H10 (upd H10 p7 (.dT (gT (l5 ++ [(exch t m, V.ref pp)])))) := Tame.upd (by rw [h107]; trivial)
          refine ⟨((s27.trans s710)).upd' n7, ?_, l5 ++ [(exch t m, V.ref pp)], _, _, rfl, upd_same, by rw [ks_snoc]; exact nd_snoc hnd6 hnin, fun p hp => ?_, fun j t' hj ht' m' hm' => by rw [ks_snoc]; exact List.mem_append_left _ (hcl6 j t' hj ht' m' hm'), fun j m' hj hm' => ?_⟩
          · exact t11.1 _ _ (s710 _ _ (s67 _ _ h6t))
          · rcases List.mem_append.mp hp with z | z
            · exact ⟨(hok6 p z).1, ((hok6 p z).2.tame (Tame.of (s67.trans s710))).tame t11⟩
            · rw [List.mem_singleton.mp z]
              refine ⟨he2, Pv.tame t11 ⟨[u, [i2]], pa_of hpp (s10 _ _ hu8) hpi (by omega) (by show 1 ≤ 50000; decide), ⟨rfl, fun z hz x hx => ?_⟩, ?_⟩⟩
              · rcases List.mem_cons.mp hz with e | hz
                · rw [e] at hx
                  exact hui x hx
                · rw [List.mem_singleton.mp hz] at hx
                  rw [List.mem_singleton.mp hx]
                  exact hi2m
              · show exch t m = exch (along ms ss.length u) (along ms ss.length ([] ++ [i2]))
                rw [along_snoc, along_nil, still_mul (by
                  have : ms.getD i2 [] = m := by rw [List.getD_eq_getElem?_getD, hm]; rfl
                  rw [this]
                  exact (hms0 m hmm).1), hua, hpwt]
                congr 1
                rw [List.getD_eq_getElem?_getD, hm]
                rfl
          · rw [ks_snoc]
            rcases Nat.lt_or_ge j i2 with z | z
            · exact List.mem_append_left _ (hcl6b j m' z hm')
            · have : j = i2 := by omega
              subst this
              rw [hm] at hm'
              cases hm'
              exact List.mem_append_right _ (List.mem_singleton.mpr rfl)
      · rintro σ H6 ⟨s6, h6t, l5, v9, v10, rfl, h67, hnd6, hok6, hcl6, hcl6b⟩
        refine ⟨s6, l5, _, _, _, rfl, h67, hnd6, hok6, fun j t' hj ht' m hm => ?_⟩
        rcases Nat.lt_or_ge j i with z | z
        · exact hcl6 j t' z ht' m hm
        · have : j = i := by omega
          subst this
          rw [ht] at ht'
          cases ht'
          obtain ⟨i2, h2, rfl⟩ := List.getElem_of_mem hm
          exact hcl6b i2 _ (by rw [htm.1]; exact h2) (List.getElem?_eq_getElem h2)
    · rintro σ H4 ⟨s4, l5, v8, v9, v10, rfl, h47, hnd5, hok5, hcl5⟩
      have hlen7 : vls.length = gs.length := htl.1
      have hcl : ∀ t ∈ gs, ∀ m ∈ ms, exch t m ∈ ks l5 := fun t ht m hm => by
        obtain ⟨j, hj, rfl⟩ := List.getElem_of_mem ht
        exact hcl5 j _ (by omega) (List.getElem?_eq_getElem hj) m hm
      refine ⟨_, rfl, p7, l5, rfl, h47, fun p hp e => ?_, fun p11 ys rows' np11 hperm htl11 => ?_⟩
      · have := (hok5 p hp).1.1
        rw [e] at this
        exact absurd this (by show ¬ (0 = _); omega)
      have s5 : Same H4 (upd H4 p11 (.lst ys)) := same_upd np11
      have h5p : (upd H4 p11 (.lst ys)) p11 = some (.lst ys) := upd_same
      generalize hH5 : upd H4 p11 (.lst ys) = H5 at s5 h5p
      have hrP : ∀ m ∈ rows', IsP ss.length m := fun m hm => by
        obtain ⟨p, hp, rfl⟩ := List.mem_map.mp (hperm.mem_iff.mp hm)
        exact (hok5 p hp).1
      refine ⟨_, rfl, _, rfl, p11, ss.length, ys, rows', rfl, h5p, htl11.same s5, hrP, hn6, fun H6 d12 l12 n12 s6 hd12 hG12 => ?_⟩
      have N : Grp ss.length (ks l12) := grp_of hG12.nd hG12.st hrP (fun x hx => by
        obtain ⟨p, hp, rfl⟩ := List.mem_map.mp hx
        obtain ⟨_, u, _, _, h3, h4⟩ := hG12.ok p hp
        exact ⟨u, h3, h4⟩) hG12.cl
      have hrN : ∀ r ∈ rows', r ∈ ks l12 := fun r hr => by
        have := hG12.cl _ hG12.st r hr
        rw [still_mul (hrP r hr).1] at this
        exact this
      have hexN : ∀ a ∈ gs, ∀ b ∈ gs, exch a b ∈ ks l12 := exch_all G N (fun m hm => (hms m hm).1) hof fun t ht m hm => hrN _ (hperm.mem_iff.mpr (hcl t ht m hm))
      have hmN : ∀ m ∈ ms, m ∈ ks l12 := fun m hm => (hperf m (hms m hm).1).mem N fun c ⟨a, ha, b, hb, e⟩ => by rw [e]; exact hexN a ha b hb
      have s26 : Same H2 H6 := s4.trans (s5.trans s6)
      have s06 := s02.trans s26
      have h67 := (s5.trans s6) _ _ h47
      have h611 := s6 _ _ h5p
      have htm6 := htm.same (s2.trans s26)
      have hb6 := (s2.trans s26) _ _ hb1
      -- products
      refine ⟨_, rfl, b1, rfl, ⟨_, SqL.of hb6⟩, fun D nD => ?_⟩
      have hmlen : ms.length ≤ 46656 := by omega
      have hPvs : ∀ r ∈ rows', ∃ vv, valV (gT l5) (kN r) = some vv ∧ Pv ms ss.length H6 r vv := fun r hr => by
        obtain ⟨p, hp, rfl⟩ := List.mem_map.mp (hperm.mem_iff.mp hr)
        exact ⟨p.2, val_gT_some hnd5 hp, (hok5 p hp).2.tame (Tame.of (s5.trans s6))⟩
      refine lc_map (wk_lst (K := K) (SqL.of hb6)) nD (by rw [htm.1]; omega) (fun i σ2 H' => ∃ m am, σ2 = [some v, some (.ref a0), some (.ref d), some (.ref gl), some (.int (ss.length : Int)), some (.ref b1), some (.ref d2), some (.ref p7), v8, v9, some (.ref am), some (.ref p11), some (.ref d12), none, none, none, none] ∧ ms[i]? = some m ∧ H' am = some (.tup (tI m))) (fun i y H' => ∃ m prs, ms[i]? = some m ∧ BTup PaV H' y prs ∧ (∀ p ∈ prs, OkP ms.length p) ∧ prodK ms ss.length prs = m) ?_ ?_ ?_ ?_
      · rintro i y Ha Hb _ t ⟨m, prs, h1, h2, h3, h4⟩
        exact ⟨m, prs, h1, stab_pa.btup _ _ _ _ t h2, h3, h4⟩
      · rintro i y H' Q' hi sm hy kk
        obtain ⟨m, hm, am, rfl, ham⟩ := htm6.2 i y hy
        exact kk _ rfl ⟨m, am, rfl, hm, sm _ _ ham⟩
      · rintro i σ2 H7 hi s7 ⟨m, am, rfl, hm, ham⟩ Q' q'
        have hmm := List.mem_of_getElem? hm
        obtain ⟨pw, hpw, hpwm⟩ := List.mem_map.mp (hmN m hmm)
        obtain ⟨_, u, hu, hul, hui, hua⟩ := hG12.ok pw hpw
        obtain ⟨aw, haw', haw⟩ := hu.same s7
        have hval : valV (gT l12) (kN m) = some pw.2 := val_gT_some hG12.nd (by rw [← hpwm]; exact hpw)
        refine ⟨_, rfl, _, rfl, d12, pw.2, rfl, by rw [← hval]; exact DGet.t (s7 _ _ hd12) (kN_eq ham), aw, haw', ⟨_, SqT.of haw⟩, fun D2 nD2 => ?_⟩
        refine lc_map (wk_tup (K := K) (SqT.of haw)) nD2 (by rw [tI_len]; omega) (fun j σ3 H' => ∃ x : Nat, u[j]? = some x ∧ σ3 = [some v, some (.ref a0), some (.ref d), some (.ref gl), some (.int (ss.length : Int)), some (.ref b1), some (.ref d2), some (.ref p7), v8, v9, some (.ref am), some (.ref p11), some (.ref d12), none, none, some (.int (x : Int)), none]) (fun j y H' => ∃ p, PaV H' y p ∧ OkP ms.length p ∧ ∃ x, u[j]? = some x ∧ exP ms ss.length p = rows'.getD x []) ?_ ?_ ?_ ?_
        · rintro j y Ha Hb _ t ⟨p, h1, h2, h3⟩
          exact ⟨p, stab_pa _ _ _ _ t h1, h2, h3⟩
        · rintro j y H' Q2 hj sm hy kk
          obtain ⟨x, hx, rfl⟩ := tI_get hy
          exact kk _ rfl ⟨x, hx, rfl⟩
        · rintro j σ3 H8 hj s8 ⟨x, hx, rfl⟩ Q2 q2
          have hxr : x < rows'.length := hui x (List.mem_of_getElem? hx)
          have hrx : rows'[x]? = some (rows'.getD x []) := by
            rw [List.getD_eq_getElem?_getD, List.getElem?_eq_getElem hxr]
            rfl
          obtain ⟨yv, hyv⟩ : ∃ yv, ys[x]? = some yv := ⟨_, List.getElem?_eq_getElem (by rw [htl11.1]; exact hxr)⟩
          obtain ⟨r, hr, ar, rfl, har⟩ := htl11.2 x yv hyv
          rw [hrx] at hr
          obtain ⟨vv, hv1, hv2⟩ := hPvs _ (List.mem_of_getElem? hrx)
          have s68 := s7.trans s8
          obtain ⟨p, hp1, hp2, hp3⟩ := hv2.tame (Tame.of s68)
          have hr' : rows'.getD x [] = r := Option.some.inj hr
          refine ⟨_, rfl, _, rfl, _, rfl, p11, ys, (x : Int), .ref ar, rfl, rfl, SqL.of (s68 _ _ h611), atI_nat hyv, p7, vv, rfl, by rw [← hv1, hr']; exact DGet.t (s68 _ _ h67) (kN_eq (((s5.trans s6).trans s68) _ _ har)), q2 _ _ (Same.refl _) ⟨p, hp1, hp2, x, hx, hp3.symm⟩⟩
        · intro zs H8 s8 hD8 hzl hzr
          obtain ⟨prs, hprl, hprs⟩ := rel_list zs (fun j y p => PaV H8 y p ∧ OkP ms.length p ∧ ∃ x, u[j]? = some x ∧ exP ms ss.length p = rows'.getD x []) hzr
          refine ⟨D2, zs, rfl, .inl ⟨SqL.of hD8, fun pt npt => ?_⟩⟩
          have s9 : Same H8 (upd H8 pt (.tup zs)) := same_upd npt
          have hul2 : prs.length = u.length := by rw [hprl, hzl, tI_len]
          refine q' _ _ (s8.trans s9) ⟨m, prs, hm, ⟨by omega, pt, zs, rfl, upd_same, hprl.symm, fun j y e => ?_⟩, fun p hp => ?_, ?_⟩
          · obtain ⟨p, h1, h2, _⟩ := hprs j y e
            exact ⟨p, h1, stab_pa _ _ _ _ (Tame.of s9) h2⟩
          · obtain ⟨j, hj, rfl⟩ := List.getElem_of_mem hp
            obtain ⟨p, h1, _, h3, _⟩ := hprs j _ (List.getElem?_eq_getElem (by omega))
            rw [List.getElem?_eq_getElem hj] at h1
            rw [Option.some.inj h1]
            exact h3
          · have e := prod_along (ms := ms) (rows := rows') (n := ss.length) u prs hul2 (fun j x p e1 e2 => by
              obtain ⟨p', h1, _, _, x', h3, h4⟩ := hprs j _ (List.getElem?_eq_getElem (by rw [← hprl]; exact (List.getElem?_eq_some_iff.mp e2).1))
              rw [e2] at h1
              rw [e1] at h3
              cases h1
              cases h3
              exact h4) (still ss.length)
            show prodK ms ss.length prs = m
            unfold prodK
            rw [e, ← hpwm]
            exact hua
      · intro zs H7 s7 hD7 hzl hzr
        obtain ⟨ps, hpsl, hps⟩ := rel_list zs (fun i y prs => ∃ m, ms[i]? = some m ∧ BTup PaV H7 y prs ∧ (∀ p ∈ prs, OkP ms.length p) ∧ prodK ms ss.length prs = m) (fun i y e => by
          obtain ⟨m, prs, h1, h2⟩ := hzr i y e
          exact ⟨prs, m, h1, h2⟩)
        refine ⟨D, zs, rfl, .inl ⟨SqL.of hD7, fun p13 np13 => ?_⟩⟩
        have s8 : Same H7 (upd H7 p13 (.tup zs)) := same_upd np13
        have hPr : PrV (upd H7 p13 (.tup zs)) (.ref p13) ps := ⟨by rw [hpsl, hzl, htm.1]; omega, p13, zs, rfl, upd_same, hpsl.symm, fun i y e => by
          obtain ⟨prs, h1, m, h2, h3, _⟩ := hps i y e
          exact ⟨prs, h1, stab_pa.btup _ _ _ _ (Tame.of s8) h3⟩⟩
        generalize hH8 : upd H7 p13 (.tup zs) = H8 at s8 hPr
        have s68 := s7.trans s8
        have hb8 := s68 _ _ hb6
        -- named
        obtain ⟨ws, hwsl, hws⟩ := rel_list ms (fun _ m w => ∃ pl ∈ l, w = pl.2 ∧ m = mk M ss w) (fun i m e => by
          obtain ⟨pl, h1, h2⟩ := hin m (hms m (List.mem_of_getElem? e)).1
          exact ⟨pl.2, pl, h1, rfl, h2⟩)
        have hmsw : ms = ws.map (mk M ss) := by
          apply List.ext_getElem?
          intro i
          rw [List.getElem?_map]
          cases e : ms[i]? with
          | none =>
            have := List.getElem?_eq_none_iff.mp e
            rw [List.getElem?_eq_none (by omega)]
            rfl
          | some m =>
            obtain ⟨w', h1, pl, h2, h3, h4⟩ := hws i m e
            rw [h1, h4]
            rfl
        have hwl : ∀ w' ∈ ws, (w' ∈ l.map (·.2)) ∧ (rowOf M ss w', w') ∈ l ∧ (∀ i ∈ w', i < M.k) ∧ w'.length ≤ 300000 ∧ (rowOf M ss w').Perm ss ∧ mk M ss w' ∈ ms := fun w' hw' => by
          obtain ⟨i, hi, rfl⟩ := List.getElem_of_mem hw'
          have hi' : i < ms.length := by omega
          obtain ⟨w2, h1, pl, h2, h3, h4⟩ := hws i _ (List.getElem?_eq_getElem hi')
          rw [List.getElem?_eq_getElem hi] at h1
          obtain ⟨a1, a2, a3, a4⟩ := hT.ok pl h2
          have hw2 : ws[i] = pl.2 := by rw [Option.some.inj h1, h3]
          rw [hw2]
          have e1 : pl.1 = rowOf M ss pl.2 := a2
          rw [h3] at h4
          exact ⟨List.mem_map.mpr ⟨pl, h2, rfl⟩, by rw [← e1]; exact h2, a1, a4, by rw [← e1]; exact a3, by rw [← h4]; exact List.getElem_mem hi'⟩
        have hlenm : ws.length = ms.length := hwsl
        have hmat : ∀ (i : Nat) (m : List Nat), ms[i]? = some m → ∃ w', ws[i]? = some w' ∧ m = mk M ss w' := fun i m e => by
          obtain ⟨w', h1, pl, h2, h3, h4⟩ := hws i m e
          exact ⟨w', h1, h4⟩
        refine ⟨_, rfl, b1, rfl, ⟨_, SqL.of hb8⟩, fun D9 nD9 => ?_⟩
        have htm8 := htm6.same s68
        refine lc_map (wk_lst (K := K) (SqL.of hb8)) nD9 (by rw [htm.1]; omega) (fun i σ2 H' => ∃ m am, σ2 = [some v, some (.ref a0), some (.ref d), some (.ref gl), some (.int (ss.length : Int)), some (.ref b1), some (.ref d2), some (.ref p7), v8, v9, some (.ref am), some (.ref p11), some (.ref d12), some (.ref p13), none, none, none] ∧ ms[i]? = some m ∧ H' am = some (.tup (tI m))) (fun i y H' => ∃ w', ws[i]? = some w' ∧ Tup H' y (rowOf M ss w')) ?_ ?_ ?_ ?_
        · rintro i y Ha Hb _ t ⟨w', h1, h2⟩
          exact ⟨w', h1, h2.tame t⟩
        · rintro i y H' Q' hi sm hy kk
          obtain ⟨m, hm, am, rfl, ham⟩ := htm8.2 i y hy
          exact kk _ rfl ⟨m, am, rfl, hm, sm _ _ ham⟩
        · rintro i σ2 H9 hi s9 ⟨m, am, rfl, hm, ham⟩ Q' q'
          obtain ⟨w', hw1, hw2⟩ := hmat i m hm
          have hmP := hms0 m (List.mem_of_getElem? hm)
          have s09 := (s06.trans s68).trans s9
          refine ⟨_, rfl, am, rfl, ⟨_, SqT.of ham⟩, fun D10 nD10 => ?_⟩
          refine lc_vals (fun j => V.int ((ss.getD (m.getD j 0) 0 : Nat) : Int)) (wk_tup (K := K) (SqT.of ham)) nD10 (by rw [tI_len, hmP.1]; omega) (fun j σ3 _ => ∃ x : Nat, m[j]? = some x ∧ σ3 = [some v, some (.ref a0), some (.ref d), some (.ref gl), some (.int (ss.length : Int)), some (.ref b1), some (.ref d2), some (.ref p7), v8, v9, some (.ref am), some (.ref p11), some (.ref d12), some (.ref p13), none, some (.int (x : Int)), none]) (fun j x H' Q2 hj sm hx kk => ?_) ?_ ?_
          · obtain ⟨y, hy, rfl⟩ := tI_get hx
            exact kk _ rfl ⟨y, hy, rfl⟩
          · rintro j σ3 H' hj sm ⟨x, hx, rfl⟩ Q2 q2
            refine ⟨_, rfl, _, rfl, a0, tI ss, (x : Int), .int ((ss.getD x 0 : Nat) : Int), rfl, rfl, .inl (.inr ⟨o0, sm _ _ (s09 _ _ h0)⟩), atI_nat (tI_at (some_getD (hmP.2.2 x (List.mem_of_getElem? hx)))), q2 _ _ (Same.refl _) ?_⟩
            rw [getD_of hx]
          · intro H10 s10 hl10
            rw [tI_len, vals_of (fun x => ss.getD x 0), hw2, mk_row (hwl w' (List.mem_of_getElem? hw1)).2.2.2.2.1] at hl10
            exact ⟨D10, _, rfl, .inl ⟨SqL.of hl10, fun pt npt => q' _ _ (s10.trans (same_upd npt)) ⟨w', hw1, pt, rfl, upd_same⟩⟩⟩
        · intro ns H9 s9 hD9 hnl hnr
          have s09 := (s06.trans s68).trans s9
          have hDZ9 := hZ.same s09
          -- Knot(..)
          refine ⟨_, rfl, _, rfl, _, rfl, D9, rfl, ⟨_, SqL.of hD9⟩, fun D11 nD11 => ?_⟩
          refine lc_vals (fun i => V.str (txt (ws.getD i []))) (wk_lst (K := K) (SqL.of hD9)) nD11 (by rw [hnl, htm.1]; omega) (fun i σ3 H' => ∃ ar w' v14 v16, ws[i]? = some w' ∧ H' ar = some (.tup (tI (rowOf M ss w'))) ∧ σ3 = [some v, some (.ref a0), some (.ref d), some (.ref gl), some (.int (ss.length : Int)), some (.ref b1), some (.ref d2), some (.ref p7), v8, v9, v16, some (.ref p11), some (.ref d12), some (.ref p13), v14, none, some (.ref ar)]) (fun i x H' Q2 hj sm hx kk => ?_) ?_ ?_
          · obtain ⟨w', h1, ar, rfl, har⟩ := hnr i x hx
            exact kk _ rfl ⟨ar, w', _, _, h1, sm _ _ har, rfl⟩
          · rintro i σ3 H' hi sm ⟨ar, w', v14, v16, h1, har, rfl⟩ Q2 q2
            refine ⟨_, rfl, _, rfl, d, ar, _, kN (rowOf M ss w'), _, rfl, rfl, hDZ9.same sm, .inl (kN_eq har), gS_some hT.nd (hwl w' (List.mem_of_getElem? h1)).2.1, q2 _ _ (Same.refl _) ?_⟩
            rw [List.getD_eq_getElem?_getD, h1]
            rfl
          · intro H10 s10 hl10
            refine ⟨D11, _, rfl, .inl ⟨SqL.of hl10, fun pw npw => ⟨_, rfl, fun x dx hx hdx hne => ?_⟩⟩⟩
            have hnlen : ns.length = ws.length := by rw [hnl, htm.1, hlenm]
            rw [hnlen] at hl10
            have s11 : Same H10 (upd H10 pw (.tup ((List.range ns.length).map fun i => V.str (txt (ws.getD i []))))) := same_upd npw
            have h11 : (upd H10 pw (.tup ((List.range ns.length).map fun i => V.str (txt (ws.getD i []))))) pw = some (.tup ((List.range ns.length).map fun i => V.str (txt (ws.getD i [])))) := upd_same
            generalize hH11 : upd H10 pw (.tup ((List.range ns.length).map fun i => V.str (txt (ws.getD i [])))) = H11 at s11 h11 hx hdx
            have sB : Same H11 (upd (upd H11 dx (.own x)) x (.ins CK dx [])) := ((Same.refl H11).upd' hdx).upd' hx
            have s911 := s9.trans (s10.trans s11)
            have hPrB := stab_pr _ _ _ _ (Tame.of (s911.trans sB)) hPr
            refine ⟨x, dx, a0, v, .ref pw, .ref p13, ss, ws, ps, rfl, upd_same, by omega, .inr ⟨o0, sB _ _ (s911 _ _ ((s06.trans s68) _ _ h0))⟩, ⟨pw, _, rfl, sB _ _ h11, by rw [List.length_map, List.length_range, hnlen], fun i u hu => ?_⟩, by omega, hPrB, fun H' a o vw' vp' keep hx' ha' hd' hw' hp' => ⟨rfl, ?_⟩⟩
            · rw [List.getElem?_map] at hu
              have hi : i < ns.length := by
                by_cases z : i < ns.length
                · exact z
                · rw [List.getElem?_eq_none (by rw [List.length_range]; omega)] at hu
                  cases hu
              rw [range_get hi] at hu
              cases hu
              refine ⟨ws.getD i [], ?_, rfl⟩
              rw [List.getD_eq_getElem?_getD, List.getElem?_eq_getElem (by omega)]
              rfl
            · have sC : Same H11 H' := fun c u hc => keep c u (fun e => by rw [e, hx] at hc; cases hc) (sB _ _ hc)
              refine q H' x ws ps (((s06.trans s68).trans s911).trans sC) ⟨dx, a, o, vw', vp', hx', ha', hd', hw', hp'⟩ ⟨fun e => ?_, by omega, fun w' hw2 => ?_, by rw [hpsl, hzl, htm.1, hlenm], fun i prs w' h1 h2 => ?_⟩
              · have hm0 : ms = [] := by rw [hmsw, e]; rfl
                have : ∀ t ∈ gs, t = still ss.length := fun t ht => (hof t ht).ind (C := fun t => t = still ss.length) rfl fun x m _ hm => by rw [hm0] at hm; exact absurd hm List.not_mem_nil
                have h2 := len_sub (m := [still ss.length]) G.nd fun t ht => List.mem_singleton.mpr (this t ht)
                simp at h2
                omega
              · obtain ⟨_, _, b1', b2', b3', b4'⟩ := hwl w' hw2
                exact ⟨b1', b2', b3', (hms _ b4').2⟩
              · have hi : i < zs.length := by rw [← hpsl]; exact (List.getElem?_eq_some_iff.mp h1).1
                obtain ⟨prs', e1, m, e2, _, e4, e5⟩ := hps i _ (List.getElem?_eq_getElem hi)
                rw [h1] at e1
                cases e1
                obtain ⟨w2, f1, f2⟩ := hmat i m e2
                rw [h2] at f1
                cases f1
                rw [← hmsw, hlenm, ← f2]
                exact ⟨e4, e5⟩
end
end Kn
/-! M3 -/
set_option maxHeartbeats 1000000
namespace Kn
open PySem PySem.Spec PyProof.Rows L2
theorem idx_at {ss : List Nat} (hn : ss.Nodup) {i s : Nat} (h : ss[i]? = some s) : ss.idxOf s = i := nodup_get_inj hn (idx_get (List.mem_of_getElem? h)) h
theorem mk_len (M : Mc) (ss w : List Nat) : (mk M ss w).length = ss.length := by unfold mk rowOf; rw [List.length_map, List.length_map]
theorem mk_nil {M : Mc} {ss : List Nat} (hn : ss.Nodup) : mk M ss [] = still ss.length := by
  apply List.ext_getElem?
  intro i
  by_cases hi : i < ss.length
  · rw [mk_get (List.getElem?_eq_getElem hi)]
    show some (ss.idxOf ss[i]) = _
    rw [idx_at hn (List.getElem?_eq_getElem hi)]
    exact (range_get hi).symm
  · rw [List.getElem?_eq_none (by rw [mk_len]; omega), List.getElem?_eq_none (by show (List.range ss.length).length ≤ i; rw [List.length_range]; omega)]
theorem mk_app {M : Mc} {ss u v : List Nat} (hu : (rowOf M ss u).Perm ss) : mul (mk M ss u) (mk M ss v) = mk M ss (u ++ v) := by
  apply List.ext_getElem?
  intro i
  by_cases hi : i < ss.length
  · have hs := List.getElem?_eq_getElem hi
    have h1 := mk_get (M := M) (w := u) hs
    rw [mul_get h1, mk_get hs]
    have h2 := mk_at hu hs h1
    rw [getD_some (mk_get h2), Mc.run_app]
  · rw [List.getElem?_eq_none (by rw [mul_len, mk_len]; omega), List.getElem?_eq_none (by rw [mk_len]; omega)]
theorem row_app {M : Mc} {ss u v : List Nat} (hu : (rowOf M ss u).Perm ss) (hv : (rowOf M ss v).Perm ss) : (rowOf M ss (u ++ v)).Perm ss := by
  have e : rowOf M ss (u ++ v) = (rowOf M ss u).map fun s => M.run s v := by
    unfold rowOf
    rw [List.map_map]
    exact List.map_congr_left fun s _ => Mc.run_app M s u v
  rw [e]
  exact (hu.map _).trans hv
theorem mk_inj {M : Mc} {ss u v : List Nat} (hu : (rowOf M ss u).Perm ss) (hv : (rowOf M ss v).Perm ss) (e : mk M ss u = mk M ss v) : rowOf M ss u = rowOf M ss v := by
  apply List.ext_getElem?
  intro i
  by_cases hi : i < ss.length
  · have hs := List.getElem?_eq_getElem hi
    have h1 := mk_at hu hs (mk_get hs)
    have h2 := mk_at hv hs (mk_get hs)
    have h3 := mk_get (M := M) (w := u) hs
    rw [e, mk_get hs] at h3
    rw [← Option.some.inj h3, h2] at h1
    unfold rowOf
    rw [List.getElem?_map, List.getElem?_map, hs]
    show some (M.run ss[i] u) = some (M.run ss[i] v)
    exact h1.symm
  · unfold rowOf
    rw [List.getElem?_eq_none (by rw [List.length_map]; omega), List.getElem?_eq_none (by rw [List.length_map]; omega)]
theorem tw_row {M : Mc} {ss : List Nat} {l : Rw} (h : Tw M ss l) {p : List Nat × List Nat} (hp : p ∈ l) : p.1 = rowOf M ss p.2 := (h.ok p hp).2.1
theorem tw_perm {M : Mc} {ss : List Nat} {l : Rw} (h : Tw M ss l) {p : List Nat × List Nat} (hp : p ∈ l) : (rowOf M ss p.2).Perm ss := by
  rw [← tw_row h hp]
  exact (h.ok p hp).2.2.1
/-- a word's turn is among them -/
theorem tw_has {M : Mc} {ss : List Nat} {l : Rw} (h : Tw M ss l) {w : List Nat} (hw : ∀ i ∈ w, i < M.k) (hp : (rowOf M ss w).Perm ss) : mk M ss w ∈ l.map fun p => mk M ss p.2 := by
  obtain ⟨p, h1, h2⟩ := List.mem_map.mp (h.all w hw hp)
  refine List.mem_map.mpr ⟨p, h1, ?_⟩
  unfold mk
  rw [← tw_row h h1, h2]
  rfl
theorem tw_grp {M : Mc} {ss : List Nat} {l : Rw} (h : Tw M ss l) (hn : ss.Nodup) : Grp ss.length (l.map fun p => mk M ss p.2) := by
  refine ⟨?_, ?_, fun t ht => ?_, fun a ha b hb => ?_⟩
  · have hl : l.Nodup := nodup_back (f := fun p : List Nat × List Nat => p.1) h.nd
    refine map_nodup hl fun p hp q hq e => ?_
    have e1 : p.1 = q.1 := by rw [tw_row h hp, tw_row h hq]; exact mk_inj (tw_perm h hp) (tw_perm h hq) e
    obtain ⟨i, hi, rfl⟩ := List.getElem_of_mem hp
    obtain ⟨j, hj, rfl⟩ := List.getElem_of_mem hq
    have h1 : (fr l)[i]? = some (l[i]).1 := by rw [List.getElem?_map, List.getElem?_eq_getElem hi]; rfl
    have h2 : (fr l)[j]? = some (l[i]).1 := by rw [List.getElem?_map, List.getElem?_eq_getElem hj, e1]; rfl
    have := nodup_get_inj h.nd h1 h2
    subst this
    rfl
  · have e : rowOf M ss [] = ss := List.map_id' ss
    have := tw_has h (w := []) (fun i hi => absurd hi List.not_mem_nil) (by rw [e])
    rw [mk_nil hn] at this
    exact this
  · obtain ⟨p, hp, rfl⟩ := List.mem_map.mp ht
    exact mk_isP hn (tw_perm h hp)
  · obtain ⟨p, hp, rfl⟩ := List.mem_map.mp ha
    obtain ⟨q, hq, rfl⟩ := List.mem_map.mp hb
    rw [mk_app (tw_perm h hp)]
    refine tw_has h (fun i hi => ?_) (row_app (tw_perm h hp) (tw_perm h hq))
    rcases List.mem_append.mp hi with z | z
    · exact (h.ok p hp).1 i z
    · exact (h.ok q hq).1 i z
end Kn
/-! G16 -/
set_option maxHeartbeats 1000000
namespace Kn
open PySem PySem.Spec PyProof.Rows L2
theorem sc_against : FnScope ["machine", "reached", "primes", "states", "words", "ring", "groups", "ends", "row"] ["machine", "reached", "primes"] (defScope s_against) := ⟨rfl, rfl, rfl, by decide +kernel, rfl, by decide +kernel, by decide +kernel⟩
/-- some set of reached states is turned by words as a perfect group -/
def Knotted (M : Mc) (rs : List Nat) : Prop := ∃ ss A, ss ≠ [] ∧ ss.Sublist rs ∧ Core A ∧ (∀ a ∈ A, ∃ w : List Nat, (∀ i ∈ w, i < M.k) ∧ (rowOf M ss w).Perm ss ∧ mk M ss w = a) ∧ ∃ a ∈ A, a ≠ still ss.length
def sp_against (CM CR CK : Addr) (T : List (Addr × Str)) : Sp := fun vs H Q _ => ∃ (v : V) (b vp : Addr) (M : Mc) (rs ps : List Nat), vs = [v, .ref b, .ref vp] ∧ IsM CM H v M ∧ H b = some (.lst (tI rs)) ∧ Rch M rs ∧ rs.length ≤ 6 ∧ H vp = some (.tup (tI ps)) ∧ LamX.Tabs T H ∧ Knotted M rs ∧
  (∀ H' x ss wd ns, LamX.ExtN H H' → LamX.Tabs T H' → ss.Sublist rs → IsRing CR H' x v wd ns → RingA M ss ps wd ns → Q (.ref x) H') ∧
  ∀ H' x ss ws prs, LamX.ExtN H H' → LamX.Tabs T H' → ss.Sublist rs → ss ≠ [] → IsKnot CK H' x v ss ws prs → KnotA M ss ws prs → Q (.ref x) H'
theorem IsM.extN {C : Addr} {H H' : Hp} {v : V} {M : Mc} (e : LamX.ExtN H H') (h : IsM C H v M) : IsM C H' v M := by
  obtain ⟨ok, a, dx, b, vrs, rfl, h1, h2, h3⟩ := h
  refine ⟨ok, a, dx, b, vrs, rfl, e _ _ h1 (fun ps z => nomatch z), e _ _ h2 (fun ps z => nomatch z), h3.1, fun i v e' => ?_⟩
  obtain ⟨r, h4, a', rfl, h5⟩ := h3.2 i v e'
  exact ⟨r, h4, a', rfl, e _ _ h5 (fun ps z => nomatch z)⟩
section
variable {P : Program} {w : World} {K : Fr} {mg : Str → Option Value} {base : Heap} {fd : FuncData} {f CM CR CK Pt : Addr}
theorem ok_against (F0 : FnP K "against" s_against f fd) (T : Bt mg) (F_all_sets : Fo P w K mg base "all_sets" ["states"] 3 (sp_allsets [(Pt, lamQ)])) (F_turn_words : Fo P w K mg base "turn_words" ["machine", "states"] 4 (sp_tw P w CM)) (F_ring_of : Fo P w K mg base "ring_of" ["machine", "states", "words", "primes"] 6 (sp_ringof P w CM CR))
    (F_series_of : Fo P w K mg base "series_of" ["turns", "many"] 6 sp_series) (F_inner : Fo P w K mg base "inner" ["states", "turn"] 1 sp_inner) (F_knot_of : Fo P w K mg base "knot_of" ["machine", "states", "words", "group"] 8 (sp_knotof P w CM CK)) : FnOk P w K mg base CX0 9 f fd ["machine", "reached", "primes"] (sp_against CM CR CK [(Pt, lamQ)]) := by
  refine F0.ok sc_against (fun vs H Q E h => ?_) (fun cdv A outer s H vs Q E hr h => ?_)
  · obtain ⟨v, b, vp, M, rs, ps, rfl, _⟩ := h
    rfl
  · obtain ⟨v, b, vp, M, rs, ps, rfl, hM, hb, hR, h6, hvp, hT, hKn, qr, qk⟩ := h
    refine ⟨_, PSs.nox (pss_cons (ps_for PassesOwn.never rfl (piL K (pc F_all_sets hr (by rfl) (pa_cons (pv 1) pa_nil))) (pg_name (i := 3) sc_against.nd rfl (Or.inr rfl))
  (pss_cons (ps_set (i := 4) sc_against.nd rfl (Or.inl rfl) (pc F_turn_words hr (by rfl) (pa_cons (pv 0) (pa_cons (pv 3) pa_nil))))
  (pss_cons (ps_set (i := 5) sc_against.nd rfl (Or.inl rfl) (pc F_ring_of hr (by rfl) (pa_cons (pv 0) (pa_cons (pv 3) (pa_cons (pv 4) (pa_cons (pv 2) pa_nil))))))
  (pss_cons (ps_if (pt_cmpR op_notN (pv 5) pe_non (nomark _)) (pss_one (ps_ret (pv 5))) pss_nil)
  (pss_cons (ps_asg (pc F_series_of hr (by rfl) (pa_cons (pe_lc (own := [("row", 8)]) (g := gName 8) (tt := tYes) rfl sc_against.nd (pi_keysZ P w (pv 4))
  (blkOk_by (N := ["machine", "reached", "primes", "states", "words", "ring", "groups", "ends", "row"]) (sc := defScope s_against) (by decide +kernel)) (fun _ _ _ _ _ => pg_name (i := 8) sc_against.nd rfl (Or.inl rfl)) (fun _ _ _ _ _ => pts_nil) (fun _ _ _ _ _ => (pc F_inner hr (by rfl) (pa_cons (pv 3) (pa_cons (pv 8) pa_nil))))) (pa_cons (pe_callB (callLenSeq K) (by rfl) T.len PySem.boot_len (pa_cons (pv 3) pa_nil)) pa_nil))) (pg_tupK K rfl (pgs_cons (pg_name (i := 6) sc_against.nd rfl (Or.inl rfl)) (pgs_cons (pg_name (i := 7) sc_against.nd rfl (Or.inl rfl)) pgs_nil))))
  (pss_one (ps_if (pt_not (pt_val (pv 7))) (pss_one (ps_ret (pc F_knot_of hr (by rfl) (pa_cons (pv 0) (pa_cons (pv 3) (pa_cons (pv 4) (pa_cons (pe_ix (ixL K) (pv 6) (pe_un un_neg pe_int) (fun _ _ => rfl)) pa_nil))))))) pss_nil)))))))
  (pss_one (ps_ret pe_non))), ?_⟩
    obtain ⟨ss0, A0, hne0, hsub0, hcore, hA, a1, ha1, ha1n⟩ := hKn
    refine ⟨_, rfl, b, rs, rfl, hb, h6, hT, fun H1 p ys L e1 T1 hp htf hAs => ?_⟩
    have hM1 := hM.extN e1
    have hvp1 := e1 _ _ hvp (fun ps z => nomatch z)
    refine ⟨p, rfl, ⟨_, SqL.of hp⟩, ?_⟩
    refine for_wk (wk_lst (K := K) (SqL.of hp)) (fun i σ H' => Same H1 H' ∧ (∀ (j : Nat) (ss : List Nat), j < i → L[j]? = some ss → ss ≠ ss0) ∧ ∃ v3 v4 v5 v6 v7, σ = [some v, some (.ref b), some (.ref vp), v3, v4, v5, v6, v7, none]) ⟨Same.refl _, fun j ss hj => absurd hj (Nat.not_lt_zero _), none, none, none, none, none, rfl⟩ (fun i σ H h => h.1) ?_ ?_
    · rintro i x σ H2 H3 hi ⟨s2, hno, v3, v4, v5, v6, v7, rfl⟩ s23 hx
      obtain ⟨ss, hss, hsF⟩ := htf.2 i x hx
      obtain ⟨a0, o0, rfl, h0, hd0⟩ := id hsF
      have s3 := s2.trans s23
      obtain ⟨hsne, hssub⟩ := hAs.ok ss (List.mem_of_getElem? hss)
      have hasc : ss.Pairwise (· < ·) := hR.asc.sublist hssub
      have S : St M ss := ⟨hsne, Nat.le_trans hssub.length_le h6, hasc.imp fun {a b} h => by omega, fun s hs => hR.rc.lt s (hssub.subset hs)⟩
      have hsF3 := hsF.same s3
      refine ⟨_, rfl, _, rfl, v, M, a0, ss, rfl, hM1.same s3, .inr ⟨o0, s3 _ _ h0⟩, S, hasc, fun H4 d l n4 s4 hZ hTw => ?_⟩
      have s14 := s3.trans s4
      have hgo : ∀ H5, Same H4 H5 → True := fun _ _ => trivial
      refine ⟨_, rfl, _, rfl, _, rfl, _, rfl, v, .ref a0, M, ss, ps, d, vp, l, rfl, hM1.same s14, hsF.same s14, S, hZ, hTw, s14 _ _ hvp1, fun H5 s5 => ?_, fun H5 x5 wd ns s5 hring hRA => ?_⟩
      · have s15 := s14.trans s5
        refine ⟨_, rfl, rfl, _, rfl, ?_⟩
        rw [decide_eq_true (rfl : V.non = V.non)]
        refine iteF ?_
        have hZ5 := hZ.same s5
        obtain ⟨od, hZo⟩ := id hZ5
        refine ⟨_, rfl, d, od, _, rfl, hZo, fun D nD => ?_⟩
        have hgl : ∀ (i : Nat) (k : List Key) (vv : V), (gS l)[i]? = some (k, vv) → ∃ pl, l[i]? = some pl ∧ k = kN pl.1 := fun i k vv e => by
          unfold gS gT toV at e
          rw [List.map_map, List.getElem?_map] at e
          cases h : l[i]? with
          | none => rw [h] at e; cases e
          | some pl =>
            rw [h] at e
            cases e
            exact ⟨pl, rfl, rfl⟩
        have hln := hTw.few
        refine lc_map (wk_keysZ hZo) nD (by rw [gS_len]; omega) (fun i σ2 H' => ∃ pl ar, l[i]? = some pl ∧ Rd H' ar (.tup (tI pl.1)) ∧ σ2 = [some v, some (.ref b), some (.ref vp), some (.ref a0), some (.ref d), some .non, v6, v7, some (.ref ar)]) (fun i y H' => ∃ pl, l[i]? = some pl ∧ Tup H' y (mk M ss pl.2)) ?_ ?_ ?_ ?_
        · rintro i y Ha Hb _ t ⟨pl, h1, h2⟩
          exact ⟨pl, h1, h2.tame t⟩
        · rintro i y H' Q' hi sm ⟨k, vv, qa, hkv, rfl, hqa⟩ kk
          obtain ⟨pl, hpl, rfl⟩ := hgl i k vv hkv
          rw [kN_kV] at hqa
          exact kk _ rfl ⟨pl, qa, hpl, hqa, rfl⟩
        · rintro i σ2 H' hi sm ⟨pl, ar, hpl, har, rfl⟩ Q' q'
          have hm := List.mem_of_getElem? hpl
          have hpp := (hTw.ok pl hm).2.2.1
          refine ⟨_, rfl, _, rfl, ar, .ref a0, ss, pl.1, rfl, hsF.same (s15.trans sm), har, by rw [hpp.length_eq]; have := S.few; omega, fun s hs => hpp.mem_iff.mp hs, fun H'' c nc sc hc => q' _ _ sc ⟨pl, hpl, c, rfl, ?_⟩⟩
          rw [hc]
          unfold mk
          rw [← tw_row hTw hm]
        · intro zs H6 s6 hD6 hzl hzr
          have s16 := s15.trans s6
          have htl : TL H6 zs (l.map fun p => mk M ss p.2) := ⟨by rw [hzl, gS_len, List.length_map], fun i y e => by
            obtain ⟨pl, h1, h2⟩ := hzr i y e
            exact ⟨mk M ss pl.2, by rw [List.getElem?_map, h1]; rfl, h2⟩⟩
          refine ⟨_, rfl, a0, _, rfl, .inr (.inl (.inr ⟨o0, s16 _ _ h0⟩)), D, ss.length, zs, _, by rw [tI_len]; rfl, hD6, htl, tw_grp hTw S.nd, List.length_pos_iff.mpr S.ne, S.few, fun H7 r b7 gl vgs vls gs e n7 s7 hr7 hb7 hgl7 htl7 G hsub he0 he1 => ?_⟩
          have s17 := s16.trans s7
          refine ⟨r, _, rfl, SqT.of hr7, rfl, _, _, rfl, _, _, rfl, rfl, ?_⟩
          refine ⟨_, rfl, e, rfl, ?_⟩
          cases e with
          | false =>
            refine iteT ?_
            refine ⟨_, rfl, _, rfl, _, rfl, _, rfl, 1, rfl, b7, _, -1, .ref gl, rfl, rfl, SqL.of hb7, atI_last _ _, v, .ref a0, M, ss, d, gl, l, vls, gs, rfl, hM1.same s17, hsF.same s17, S, hZ5.same (s6.trans s7), hTw, hgl7, htl7, G, fun x hx => ?_, (he0 rfl).1, (he0 rfl).2, fun H8 x8 ws prs s8 hk hka => ?_⟩
            · obtain ⟨pl, h1, h2⟩ := List.mem_map.mp (hsub x hx)
              exact ⟨pl, h1, h2.symm⟩
            · have s18 := s17.trans s8
              exact qk H8 x8 ss ws prs (e1.trans (LamX.ExtN.of s18)) (T1.ext s18) hssub hsne hk hka
          | true =>
            refine iteF ⟨s17, fun j ss' hj hss' => ?_, _, _, _, _, _, rfl⟩
            rcases Nat.lt_or_ge j i with z | z
            · exact hno j ss' z hss'
            · have : j = i := by omega
              subst this
              rw [hss] at hss'
              cases hss'
              intro e2
              subst e2
              exact ha1n (he1 rfl A0 (fun a ha => by
                obtain ⟨w', h1, h2, h3⟩ := hA a ha
                rw [← h3]
                exact tw_has hTw h1 h2) hcore a1 ha1)
      · have s15 := s14.trans s5
        refine ⟨_, rfl, rfl, _, rfl, ?_⟩
        rw [decide_eq_false (fun z => nomatch z : V.ref x5 ≠ V.non)]
        refine iteT ?_
        exact ⟨_, rfl, qr H5 x5 ss wd ns (e1.trans (LamX.ExtN.of s15)) (T1.ext s15) hssub hring hRA⟩
    · rintro σ H2 ⟨s2, hno, v3, v4, v5, v6, v7, rfl⟩
      exfalso
      obtain ⟨j, hj, e⟩ := List.getElem_of_mem (hAs.all ss0 hne0 hsub0)
      exact hno j ss0 (by rw [htf.1]; exact hj) (by rw [List.getElem?_eq_getElem hj, e]) rfl
end
end Kn
/-! G17 -/
set_option maxHeartbeats 1000000
namespace Kn
open PySem PySem.Spec PyProof.Rows L2
theorem sc_build : FnScope ["machine", "primes", "reached", "found", "circuit", "levels"] ["machine", "primes"] (defScope s_build) := ⟨rfl, rfl, rfl, by decide +kernel, rfl, by decide +kernel, by decide +kernel⟩
def spV (sp : Sp) : Sp := fun vs H Q E => ∃ v rest, vs = v :: rest ∧ rest.length ≤ 4 ∧ ∀ p, H p = none → sp [v, .ref p] (upd H p (.tup rest)) Q E
theorem ofV {P : Program} {w : World} {K : Fr} {mg : Str → Option Value} {base : Heap} {x qual : Str} {params : Arguments} {body : List Stmt} {scope : Scope} {f : Addr} {fd : FuncData} {N : List Str} {pa pv : Str} {k : Nat} {sp : Sp} (F : FunD K x qual params body scope [] [] f fd) (S : FnScope N [pa, pv] scope)
    (hb : ∀ (kV doc pm : Value) (an : Option Addr) (cdv ct u : Value) (rest : List Value), rest.length ≤ 4 → bindArgs (PySem.W.fnOf x qual params body scope .none kV doc pm an cdv ct) ⟨u :: rest, []⟩ = (newTuple rest >>= fun t => pure [(pa, u), (pv, t)]))
    (hbody : ∀ (cdv : Value) (A : Around) (outer : List Env) (s : Shared) (H : Hp) (vs : List V) (Q : VK) (E : XK), Room k (A.deeper (envOfC qual scope s.heap.objs.size f cdv)) → sp vs H Q E →
      ∃ t, PSs (cxOf CX0 P w K mg base N qual scope f cdv A outer s H E) body t ∧ t { nx := fun _ H' => Q .non H', rt := Q } (start N vs) H) : FnR P w K mg base CX0 (k + 1) f (spV sp) := by
  obtain ⟨oc, od, dV, kV, doc, pm, an, cdv, ct, osl, rfl, lk, hcd, d1, d2⟩ := F.ex
  obtain ⟨_, rfl⟩ : _ ∧ dV = .none := d1.elim id fun z => absurd rfl z.1
  exact fn_ofV lk hcd S (by decide) (fun u rest h => hb kV doc pm an cdv ct u rest h) (fun _ _ _ _ _ _ _ _ _ _ _ _ z => z.elim) fun A outer s H vs Q E hr hsp => hbody cdv A outer s H vs Q E hr hsp
/-- a def of the module with a star parameter -/
structure Vo (P : Program) (w : World) (K : Fr) (mg : Str → Option Value) (base : Heap) (x : Str) (k : Nat) (sp : Sp) : Prop where
  ex : FnR P w K mg base CX0 k (He.ga K x) (spV sp)
  g : mg x = some (.ref (He.ga K x))
  kp : PySem.W.keepIn K (.ref (He.ga K x)) = true
theorem pcV {X : Cx} {x : Str} {j k : Nat} {sp : Sp} {e : Expr} {es : List Expr} {t : TA} {p pos : Pos} (F : Vo X.prog X.w X.K X.mg X.base x j sp) (hr : Room k X.A) (hg : Gl X x) (ha : PA X (e :: es) t) (hjk : j ≤ k := by first | decide | exact Nat.le_refl _)
    (hdb : (x == ("__debug__" : Str)) = false := by decide) (he : starEach (e :: es) X.env = (false, eval e X.env) :: starEach es X.env := by rfl) (hpl : (backTo pos (starEach es X.env)).any (·.1) = false := by rfl) :
    PE X (.Call (.Name x p) (e :: es) [] pos) (fun σ H Q => t σ H fun vs H1 => spV sp vs H1 Q E0) := by
  refine ⟨fun pins s σ H Q I h => ?_⟩
  refine wpAny_Call_Name_kw (ld_glob I hg F.g ?_ hdb)
  refine PySem.W.callWith_K (first := []) (h₀ := X.base) I.ok.mod.kin F.kp (thn (ha.run pos pins s σ H _ I h) fun us s1 ⟨vs, H1, I1, r, q⟩ => ⟨I1.kIn, ?_⟩) he hpl
  exact wpAny_call (run_fnR F.ex (hr.mono hjk) pass0 I1 r q)
def sp_build (CM CR CK : Addr) (T : List (Addr × Str)) : Sp := fun vs H Q _ => ∃ (v : V) (vp : Addr) (M : Mc) (ps : List Nat), vs = [v, .ref vp] ∧ IsM CM H v M ∧ (∀ rs, Rch M rs → rs.length ≤ 6 ∧ Knotted M rs) ∧ H vp = some (.tup (tI ps)) ∧ (∀ p ∈ ps, prm p = true ∧ p ≤ 8) ∧ LamX.Tabs T H ∧
  (∀ H' x rs ss wd ns, LamX.ExtN H H' → LamX.Tabs T H' → Rch M rs → ss.Sublist rs → IsRing CR H' x v wd ns → RingA M ss ps wd ns → Q (.ref x) H') ∧
  ∀ H' x rs ss ws prs, LamX.ExtN H H' → LamX.Tabs T H' → Rch M rs → ss.Sublist rs → ss ≠ [] → IsKnot CK H' x v ss ws prs → KnotA M ss ws prs → Q (.ref x) H'
section
variable {P : Program} {w : World} {K : Fr} {mg : Str → Option Value} {base : Heap} {fd : FuncData} {f CM CR CK Pt : Addr}
theorem ok_build (F0 : FnP K "build" s_build f fd) (T : Bt mg) (F_small_reach : Fo P w K mg base "small_reach" ["machine"] 4 (sp_small CM)) (F_need_primes : Fo P w K mg base "need_primes" ["primes"] 3 sp_needpr) (F_against : Fo P w K mg base "against" ["machine", "reached", "primes"] 9 (sp_against CM CR CK [(Pt, lamQ)])) : FnR P w K mg base CX0 10 f (spV (sp_build CM CR CK [(Pt, lamQ)])) := by
  refine ofV F0 sc_build (fun kV doc pm an cdv ct u rest h => ?_) (fun cdv A outer s H vs Q E hr h => ?_)
  · match rest, h with
    | [], _ => rfl
    | [_], _ => rfl
    | [_, _], _ => rfl
    | [_, _, _], _ => rfl
    | [_, _, _, _], _ => rfl
    | _ :: _ :: _ :: _ :: _ :: r, h => exact absurd h (by simp only [List.length_cons]; omega)
  · obtain ⟨v, vp, M, ps, rfl, hM, hkn, hvp, hpr, hT, qr, qk⟩ := h
    refine ⟨_, PSs.nox (pss_cons (ps_set (i := 2) sc_build.nd rfl (Or.inl rfl) (pc F_small_reach hr (by rfl) (pa_cons (pv 0) pa_nil)))
  (pss_cons (ps_expr (pc F_need_primes hr (by rfl) (pa_cons (pv 1) pa_nil)))
  (pss_cons (ps_set (i := 3) sc_build.nd rfl (Or.inl rfl) (pc F_against hr (by rfl) (pa_cons (pv 0) (pa_cons (pv 2) (pa_cons (pv 1) pa_nil)))))
  (pss_cons (ps_if (pt_cmpR op_notN (pv 3) pe_non (nomark _)) (pss_one (ps_ret (pv 3))) pss_nil)
  (pss_cons ps_never
  (pss_one ps_never)))))), ?_⟩
    refine ⟨_, rfl, v, M, rfl, hM, fun rs hrs => (hkn rs hrs).1, fun H1 b rs n1 s1 hb hR => ?_⟩
    refine ⟨_, rfl, vp, ps, rfl, s1 _ _ hvp, hpr, fun H2 s2 => ?_⟩
    have s12 := s1.trans s2
    have eN : LamX.ExtN H H2 := LamX.ExtN.of s12
    refine ⟨_, rfl, _, rfl, _, rfl, v, b, vp, M, rs, ps, rfl, hM.same s12, s2 _ _ hb, hR, (hkn rs hR).1, s12 _ _ hvp, hT.ext s12, (hkn rs hR).2, fun H3 x ss wd ns e3 T3 hss hring hRA => ?_, fun H3 x ss ws prs e3 T3 hss hne hk hka => ?_⟩
    · refine ⟨_, rfl, rfl, _, rfl, ?_⟩
      rw [decide_eq_false (fun z => nomatch z : V.ref x ≠ V.non)]
      exact iteT ⟨_, rfl, qr H3 x rs ss wd ns (eN.trans e3) T3 hR hss hring hRA⟩
    · refine ⟨_, rfl, rfl, _, rfl, ?_⟩
      rw [decide_eq_false (fun z => nomatch z : V.ref x ≠ V.non)]
      exact iteT ⟨_, rfl, qk H3 x rs ss ws prs (eN.trans e3) T3 hR hss hne hk hka⟩
end
end Kn
/-! G18 -/
set_option maxHeartbeats 1000000
namespace Kn
open PySem PySem.Spec PyProof.Rows L2
theorem sc_are_words : FnScope ["alphabet", "value", "word"] ["alphabet", "value"] (defScope s_are_words) := ⟨rfl, rfl, rfl, by decide +kernel, rfl, by decide +kernel, by decide +kernel⟩
theorem sc_are_indexes : FnScope ["value", "many", "one"] ["value", "many"] (defScope s_are_indexes) := ⟨rfl, rfl, rfl, by decide +kernel, rfl, by decide +kernel, by decide +kernel⟩
theorem sc_along : FnScope ["makers", "indexes", "found", "index"] ["makers", "indexes"] (defScope s_along) := ⟨rfl, rfl, rfl, by decide +kernel, rfl, by decide +kernel, by decide +kernel⟩
theorem sc_product_of : FnScope ["makers", "pairs", "found", "pair", "one"] ["makers", "pairs"] (defScope s_product_of) := ⟨rfl, rfl, rfl, by decide +kernel, rfl, by decide +kernel, by decide +kernel⟩
def sp_areidx : Sp := fun vs H Q _ => ∃ (a : Addr) (u : List Nat) (k : Nat), vs = [.ref a, .int (k : Int)] ∧ H a = some (.tup (tI u)) ∧ (∀ x ∈ u, x < k) ∧ u.length ≤ 50000 ∧ ∀ H', Same H H' → Q (.bl true) H'
def sp_along : Sp := fun vs H Q _ => ∃ (b a : Addr) (vms : List V) (ms : List (List Nat)) (n : Nat) (u : List Nat), vs = [.ref b, .ref a] ∧ H b = some (.lst vms) ∧ TL H vms ms ∧ ms ≠ [] ∧ (∀ m ∈ ms, IsP n m) ∧ n ≤ 6 ∧ H a = some (.tup (tI u)) ∧ (∀ x ∈ u, x < ms.length) ∧ u.length ≤ 50000 ∧
  ∀ H' p, H p = none → Same H H' → H' p = some (.tup (tI (along ms n u))) → Q (.ref p) H'
def sp_arew : Sp := fun vs H Q _ => ∃ (v : V) (k : Nat) (ws : List (List Nat)), vs = [.str (txt (List.range k)), v] ∧ k ≤ 4 ∧ TupOf StrV H v ws ∧ (∀ w ∈ ws, (∀ i ∈ w, i < k) ∧ w.length ≤ 1000000) ∧ ws.length ≤ 50000 ∧ ∀ H', Same H H' → Q (.bl true) H'
def sp_prodof : Sp := fun vs H Q _ => ∃ (b : Addr) (v : V) (vms : List V) (ms : List (List Nat)) (n : Nat) (prs : List (List (List Nat))), vs = [.ref b, v] ∧ H b = some (.lst vms) ∧ TL H vms ms ∧ ms ≠ [] ∧ (∀ m ∈ ms, IsP n m) ∧ n ≤ 6 ∧ BTup PaV H v prs ∧ (∀ p ∈ prs, OkP ms.length p) ∧
  ∀ H' p, H p = none → Same H H' → H' p = some (.tup (tI (prodK ms n prs))) → Q (.ref p) H'
section
variable {P : Program} {w : World} {K : Fr} {mg : Str → Option Value} {base : Heap} {fd : FuncData} {f CM CR CK : Addr}
theorem ok_areidx (F0 : FnP K "are_indexes" s_are_indexes f fd) (T : Bt mg) (F_is_number : Fo P w K mg base "is_number" ["value", "least", "most"] 1 sp_number) : FnOk P w K mg base CX0 2 f fd ["value", "many"] sp_areidx := by
  refine F0.ok sc_are_indexes (fun vs H Q E h => ?_) (fun cdv A outer s H vs Q E hr h => ?_)
  · obtain ⟨a, u, k, rfl, _⟩ := h
    rfl
  · obtain ⟨a, u, k, rfl, ha, hlt, hl, q⟩ := h
    refine ⟨_, PSs.nox (pss_one (ps_ret (pe_and (pe_callB (callIsi K) (by rfl) T.isinstance (by decide +kernel) (pa_cons (pv 0) (pa_cons (pe_bltn (v := .ty "tuple") (by rfl) T.tuple (by decide +kernel) rfl) pa_nil))) (pe_one (pe_callB (crAll K) (by rfl) T.all (by decide +kernel) (pa_cons (pe_lc (own := [("one", 2)]) (g := gName 2) (tt := tYes) rfl sc_are_indexes.nd (piT K (pv 0))
  (blkOk_by (N := ["value", "many", "one"]) (sc := defScope s_are_indexes) (by decide +kernel)) (fun _ _ _ _ _ => pg_name (i := 2) sc_are_indexes.nd rfl (Or.inl rfl)) (fun _ _ _ _ _ => pts_nil) (fun _ _ _ _ _ => (pc F_is_number hr (by rfl) (pa_cons (pv 2) (pa_cons pe_int (pa_cons (pe_op op_sub (pv 1) pe_int) pa_nil)))))) pa_nil)))))), ?_⟩
    refine ⟨_, rfl, _, _, _, _, _, rfl, .ty _, tyT ha, kit_ty k_tt, true, rfl, iteT ?_⟩
    refine ⟨_, rfl, a, rfl, ⟨_, SqT.of ha⟩, fun D hD => ?_⟩
    refine lc_bools (fun _ => true) (wk_tup (SqT.of ha)) hD (by rw [tI_len]; omega) (fun i σ2 _ => ∃ x : Nat, x < k ∧ σ2 = [some (.ref a), some (.int (k : Int)), some (.int (x : Int))]) (fun i x H' Q' hi sm hx kk => ?_) ?_ ?_
    · obtain ⟨y, hy, rfl⟩ := tI_get hx
      exact kk _ rfl ⟨y, hlt y (List.mem_of_getElem? hy), rfl⟩
    · rintro i σ2 H' hi sm ⟨x, hx, rfl⟩ Q' q'
      refine ⟨_, rfl, _, rfl, _, _, rfl, rfl, (x : Int), 0, _, rfl, .inr ⟨_, rfl⟩, q' _ _ (Same.refl _) ?_⟩
      show V.bl _ = V.bl true
      congr 1
      rw [decide_eq_true (by omega), Bool.true_and]
      exact decide_eq_true (by omega)
    · intro H' sm hl'
      refine ⟨D, _, rfl, SqL.of hl', ?_⟩
      rw [all_true]
      exact q _ sm
theorem ok_along (F0 : FnP K "along" s_along f fd) (T : Bt mg) (F_still : Fo P w K mg base "still" ["many"] 1 sp_still) (F_product : Fo P w K mg base "product" ["one", "other"] 1 sp_product) : FnOk P w K mg base CX0 2 f fd ["makers", "indexes"] sp_along := by
  refine F0.ok sc_along (fun vs H Q E h => ?_) (fun cdv A outer s H vs Q E hr h => ?_)
  · obtain ⟨b, a, vms, ms, n, u, rfl, _⟩ := h
    rfl
  · obtain ⟨b, a, vms, ms, n, u, rfl, hb, htm, hne, hP, hn, ha, hlt, hl, q⟩ := h
    refine ⟨_, PSs.nox (pss_cons (ps_set (i := 2) sc_along.nd rfl (Or.inl rfl) (pc F_still hr (by rfl) (pa_cons (pe_callB (callLenSeq K) (by rfl) T.len PySem.boot_len (pa_cons (pe_ix (ixL K) (pv 0) pe_int (fun _ _ => rfl)) pa_nil)) pa_nil)))
  (pss_cons (ps_for PassesOwn.never rfl (piT K (pv 1)) (pg_name (i := 3) sc_along.nd rfl (Or.inl rfl))
  (pss_one (ps_set (i := 2) sc_along.nd rfl (Or.inl rfl) (pc F_product hr (by rfl) (pa_cons (pv 2) (pa_cons (pe_ix (ixL K) (pv 0) (pv 3) (fun _ _ => rfl)) pa_nil))))))
  (pss_one (ps_ret (pv 2))))), ?_⟩
    obtain ⟨m0, hm0⟩ : ∃ m0, ms[0]? = some m0 := ⟨_, List.getElem?_eq_getElem (List.length_pos_iff.mpr hne)⟩
    obtain ⟨v0, hv0⟩ : ∃ v0, vms[0]? = some v0 := ⟨_, List.getElem?_eq_getElem (by rw [htm.1]; exact List.length_pos_iff.mpr hne)⟩
    obtain ⟨r0, hr0, a0, rfl, ha0⟩ := htm.2 0 v0 hv0
    rw [hm0] at hr0
    cases hr0
    have hP0 := hP m0 (List.mem_of_getElem? hm0)
    refine ⟨_, rfl, b, vms, 0, .ref a0, rfl, rfl, SqL.of hb, atI_nat (j := 0) hv0, a0, tI m0, rfl, .inr (SqT.of ha0), n, by rw [tI_len, hP0.1]; rfl, by omega, fun H1 p n1 s1 hp => ?_⟩
    refine ⟨_, rfl, a, rfl, ⟨_, SqT.of (s1 _ _ ha)⟩, ?_⟩
    refine for_wk (wk_tup (K := K) (SqT.of ha)) (fun i σ H' => Same H H' ∧ ∃ p v3, σ = [some (.ref b), some (.ref a), some (.ref p), v3] ∧ H p = none ∧ H' p = some (.tup (tI (along ms n (u.take i))))) ⟨s1, p, none, rfl, n1, hp⟩ (fun i σ H h => h.1) ?_ ?_
    · rintro i x σ H3 H4 hi ⟨s3, p, v3, rfl, np, h3p⟩ s34 hx
      obtain ⟨x, hx', rfl⟩ := tI_get hx
      have hxl := hlt x (List.mem_of_getElem? hx')
      obtain ⟨vm, hvm⟩ : ∃ vm, vms[x]? = some vm := ⟨_, List.getElem?_eq_getElem (by rw [htm.1]; exact hxl)⟩
      obtain ⟨m, hm, am, rfl, ham⟩ := htm.2 x vm hvm
      have s4 := s3.trans s34
      have hPm := hP m (List.mem_of_getElem? hm)
      have hPa : IsP n (along ms n (u.take i)) := along_ind (C := IsP n) (isP_still n) (fun x m hx hm => hx.mul (hP m hm)) _ fun y hy => hlt y (List.mem_of_mem_take hy)
      refine ⟨_, rfl, _, rfl, _, rfl, b, vms, (x : Int), .ref am, rfl, rfl, SqL.of (s4 _ _ hb), atI_nat hvm, p, am, _, m, rfl, s34 _ _ h3p, s4 _ _ ham, fun y hy => by rw [hPm.1]; exact hPa.2.2 y hy, by rw [hPa.1]; omega, fun H5 p5 n5 s5 hp5 => ?_⟩
      refine ⟨s4.trans s5, p5, _, rfl, s4.free n5, ?_⟩
      rw [hp5]
      have htake : u.take (i + 1) = u.take i ++ [x] := by
        rw [List.take_succ, hx']
        rfl
      rw [htake, along_snoc]
      have : ms.getD x [] = m := by rw [List.getD_eq_getElem?_getD, hm]; rfl
      rw [this]
    · rintro σ H3 ⟨s3, p, v3, rfl, np, h3p⟩
      rw [List.take_of_length_le (by rw [tI_len]; exact Nat.le_refl _)] at h3p
      exact ⟨_, rfl, q _ p np s3 h3p⟩
theorem ok_arew (F0 : FnP K "are_words" s_are_words f fd) (T : Bt mg) (F_is_word : Fo P w K mg base "is_word" ["alphabet", "value"] 1 sp_isw) : FnOk P w K mg base CX0 2 f fd ["alphabet", "value"] sp_arew := by
  refine F0.ok sc_are_words (fun vs H Q E h => ?_) (fun cdv A outer s H vs Q E hr h => ?_)
  · obtain ⟨v, k, ws, rfl, _⟩ := h
    rfl
  · obtain ⟨v, k, ws, rfl, hk, ⟨a, us, rfl, ha, hul, hu⟩, hw, hl, q⟩ := h
    refine ⟨_, PSs.nox (pss_one (ps_ret (pe_and (pe_callB (callIsi K) (by rfl) T.isinstance (by decide +kernel) (pa_cons (pv 1) (pa_cons (pe_bltn (v := .ty "tuple") (by rfl) T.tuple (by decide +kernel) rfl) pa_nil))) (pe_one (pe_callB (crAll K) (by rfl) T.all (by decide +kernel) (pa_cons (pe_lc (own := [("word", 2)]) (g := gName 2) (tt := tYes) rfl sc_are_words.nd (piT K (pv 1))
  (blkOk_by (N := ["alphabet", "value", "word"]) (sc := defScope s_are_words) (by decide +kernel)) (fun _ _ _ _ _ => pg_name (i := 2) sc_are_words.nd rfl (Or.inl rfl)) (fun _ _ _ _ _ => pts_nil) (fun _ _ _ _ _ => (pc F_is_word hr (by rfl) (pa_cons (pv 0) (pa_cons (pv 2) pa_nil))))) pa_nil)))))), ?_⟩
    refine ⟨_, rfl, _, _, _, _, _, rfl, .ty _, tyT ha, kit_ty k_tt, true, rfl, iteT ?_⟩
    refine ⟨_, rfl, a, rfl, ⟨_, SqT.of ha⟩, fun D hD => ?_⟩
    refine lc_bools (fun _ => true) (wk_tup (SqT.of ha)) hD (by omega) (fun i σ2 _ => ∃ w', w' ∈ ws ∧ σ2 = [some (.str (txt (List.range k))), some (.ref a), some (.str (txt w'))]) (fun i x H' Q' hi sm hx kk => ?_) ?_ ?_
    · obtain ⟨w', h1, h2⟩ := hu i x hx
      have h2 : x = .str (txt w') := h2
      subst h2
      exact kk _ rfl ⟨w', List.mem_of_getElem? h1, rfl⟩
    · rintro i σ2 H' hi sm ⟨w', hw', rfl⟩ Q' q'
      exact ⟨_, rfl, _, rfl, k, w', rfl, hk, (hw w' hw').1, (hw w' hw').2, fun H2 s2 => q' _ _ s2 rfl⟩
    · intro H' sm hl'
      refine ⟨D, _, rfl, SqL.of hl', ?_⟩
      rw [all_true]
      exact q _ sm
theorem prodK_snoc (ms : List (List Nat)) (n : Nat) (l : List (List (List Nat))) (p : List (List Nat)) : prodK ms n (l ++ [p]) = mul (prodK ms n l) (exP ms n p) := by
  unfold prodK
  rw [List.foldl_append]
  rfl
theorem along_isP {ms : List (List Nat)} {n : Nat} (hP : ∀ m ∈ ms, IsP n m) {u : List Nat} (hu : ∀ x ∈ u, x < ms.length) : IsP n (along ms n u) := along_ind (C := IsP n) (isP_still n) (fun x m hx hm => hx.mul (hP m hm)) _ hu
theorem exP_isP {ms : List (List Nat)} {n : Nat} (hP : ∀ m ∈ ms, IsP n m) {p : List (List Nat)} (hp : OkP ms.length p) : IsP n (exP ms n p) := by
  obtain ⟨h1, h2⟩ := hp
  match p, h1 with
  | [u, x], _ => exact (along_isP hP (h2 u List.mem_cons_self)).exch (along_isP hP (h2 x (List.mem_cons_of_mem _ List.mem_cons_self)))
theorem prodK_isP {ms : List (List Nat)} {n : Nat} (hP : ∀ m ∈ ms, IsP n m) (l : List (List (List Nat))) (hl : ∀ p ∈ l, OkP ms.length p) : IsP n (prodK ms n l) := by
  induction l using rev_ind with
  | h0 => exact isP_still n
  | hs l p ih => rw [prodK_snoc]; exact (ih fun p' hp' => hl p' (List.mem_append_left _ hp')).mul (exP_isP hP (hl p (List.mem_append_right _ List.mem_cons_self)))
theorem ok_prodof (F0 : FnP K "product_of" s_product_of f fd) (T : Bt mg) (F_still : Fo P w K mg base "still" ["many"] 1 sp_still) (F_product : Fo P w K mg base "product" ["one", "other"] 1 sp_product) (F_exchange : Fo P w K mg base "exchange" ["one", "other"] 2 sp_exchange) (F_along : Fo P w K mg base "along" ["makers", "indexes"] 2 sp_along) (F_are_indexes : Fo P w K mg base "are_indexes" ["value", "many"] 2 sp_areidx) : FnOk P w K mg base CX0 3 f fd ["makers", "pairs"] sp_prodof := by
  refine F0.ok sc_product_of (fun vs H Q E h => ?_) (fun cdv A outer s H vs Q E hr h => ?_)
  · obtain ⟨b, v, vms, ms, n, prs, rfl, _⟩ := h
    rfl
  · obtain ⟨b, v, vms, ms, n, prs, rfl, hb, htm, hne, hP, hn, ⟨hpl, a, us, rfl, ha, hul, hu⟩, hok, q⟩ := h
    refine ⟨_, PSs.nox (pss_cons (ps_if (pt_not (pt_val (pe_callB (callIsi K) (by rfl) T.isinstance (by decide +kernel) (pa_cons (pv 1) (pa_cons (pe_bltn (v := .ty "tuple") (by rfl) T.tuple (by decide +kernel) rfl) pa_nil))))) (pss_one (ps_ret pe_non)) pss_nil)
  (pss_cons (ps_set (i := 2) sc_product_of.nd rfl (Or.inl rfl) (pc F_still hr (by rfl) (pa_cons (pe_callB (callLenSeq K) (by rfl) T.len PySem.boot_len (pa_cons (pe_ix (ixL K) (pv 0) pe_int (fun _ _ => rfl)) pa_nil)) pa_nil)))
  (pss_cons (ps_for PassesOwn.never rfl (piT K (pv 1)) (pg_name (i := 3) sc_product_of.nd rfl (Or.inl rfl))
  (pss_cons (ps_if (PW.pt (pw_or (pt_not (pt_val (pe_callB (callIsi K) (by rfl) T.isinstance (by decide +kernel) (pa_cons (pv 3) (pa_cons (pe_bltn (v := .ty "tuple") (by rfl) T.tuple (by decide +kernel) rfl) pa_nil))))) (pw_or (pt_cmpR op_ne (pe_callB (callLenSeq K) (by rfl) T.len PySem.boot_len (pa_cons (pv 3) pa_nil)) pe_int (nomark _)) (pw_or1 (pt_not (pt_val (pe_callB (crAll K) (by rfl) T.all (by decide +kernel) (pa_cons (pe_lc (own := [("one", 4)]) (g := gName 4) (tt := tYes) rfl sc_product_of.nd (piT K (pv 3))
  (blkOk_by (N := ["makers", "pairs", "found", "pair", "one"]) (sc := defScope s_product_of) (by decide +kernel)) (fun _ _ _ _ _ => pg_name (i := 4) sc_product_of.nd rfl (Or.inl rfl)) (fun _ _ _ _ _ => pts_nil) (fun _ _ _ _ _ => (pc F_are_indexes hr (by rfl) (pa_cons (pv 4) (pa_cons (pe_callB (callLenSeq K) (by rfl) T.len PySem.boot_len (pa_cons (pv 0) pa_nil)) pa_nil))))) pa_nil)))))))) (pss_one (ps_ret pe_non)) pss_nil)
  (pss_one (ps_set (i := 2) sc_product_of.nd rfl (Or.inl rfl) (pc F_product hr (by rfl) (pa_cons (pv 2) (pa_cons (pc F_exchange hr (by rfl) (pa_cons (pc F_along hr (by rfl) (pa_cons (pv 0) (pa_cons (pe_ix (ixT K) (pv 3) pe_int (fun _ _ => rfl)) pa_nil))) (pa_cons (pc F_along hr (by rfl) (pa_cons (pv 0) (pa_cons (pe_ix (ixT K) (pv 3) pe_int (fun _ _ => rfl)) pa_nil))) pa_nil))) pa_nil)))))))
  (pss_one (ps_ret (pv 2)))))), ?_⟩
    obtain ⟨m0, hm0⟩ : ∃ m0, ms[0]? = some m0 := ⟨_, List.getElem?_eq_getElem (List.length_pos_iff.mpr hne)⟩
    obtain ⟨v0, hv0⟩ : ∃ v0, vms[0]? = some v0 := ⟨_, List.getElem?_eq_getElem (by rw [htm.1]; exact List.length_pos_iff.mpr hne)⟩
    obtain ⟨r0, hr0, a0, rfl, ha0⟩ := htm.2 0 v0 hv0
    rw [hm0] at hr0
    cases hr0
    have hP0 := hP m0 (List.mem_of_getElem? hm0)
    refine ⟨_, rfl, _, _, _, _, _, rfl, .ty _, tyT ha, kit_ty k_tt, true, rfl, iteF ?_⟩
    refine ⟨_, rfl, b, vms, 0, .ref a0, rfl, rfl, SqL.of hb, atI_nat (j := 0) hv0, a0, tI m0, rfl, .inr (SqT.of ha0), n, by rw [tI_len, hP0.1]; rfl, by omega, fun H1 p n1 s1 hp => ?_⟩
    refine ⟨_, rfl, a, rfl, ⟨_, SqT.of (s1 _ _ ha)⟩, ?_⟩
    refine for_wk (wk_tup (K := K) (SqT.of ha)) (fun i σ H' => Same H H' ∧ ∃ p v3, σ = [some (.ref b), some (.ref a), some (.ref p), v3, none] ∧ H p = none ∧ H' p = some (.tup (tI (prodK ms n (prs.take i))))) ⟨s1, p, none, rfl, n1, hp⟩ (fun i σ H h => h.1) ?_ ?_
    · rintro i x σ H3 H4 hi ⟨s3, p, v3, rfl, np, h3p⟩ s34 hx
      obtain ⟨pr, hpr, hPa2, T2, us2, rfl, hT2, hul2, hu2⟩ := hu i x hx
      have hokp := hok pr (List.mem_of_getElem? hpr)
      obtain ⟨u1, u2, rfl⟩ : ∃ u1 u2, pr = [u1, u2] := by
        match pr, hokp.1 with
        | [u1, u2], _ => exact ⟨u1, u2, rfl⟩
      obtain ⟨w1, w2, rfl⟩ : ∃ w1 w2, us2 = [w1, w2] := by
        match us2, hul2 with
        | [w1, w2], _ => exact ⟨w1, w2, rfl⟩
      obtain ⟨_, e1, l1, t1⟩ := hu2 0 w1 rfl
      cases e1
      obtain ⟨_, e2, l2, t2⟩ := hu2 1 w2 rfl
      cases e2
      obtain ⟨b1, rfl, hb1⟩ := tup_of.mp t1
      obtain ⟨b2, rfl, hb2⟩ := tup_of.mp t2
      have s4 := s3.trans s34
      have hT4 := s4 _ _ hT2
      have hb14 := s4 _ _ hb1
      have hb24 := s4 _ _ hb2
      have hb4 := s4 _ _ hb
      have ho1 : ∀ x ∈ u1, x < ms.length := hokp.2 u1 List.mem_cons_self
      have ho2 : ∀ x ∈ u2, x < ms.length := hokp.2 u2 (List.mem_cons_of_mem _ List.mem_cons_self)
      refine ⟨_, rfl, _, _, _, _, _, rfl, .ty _, tyT hT4, kit_ty k_tt, true, rfl, iteF ?_⟩
      refine ⟨_, rfl, T2, _, rfl, .inr (SqT.of hT4), rfl, _, rfl, ?_⟩
      have e2 : decide (V.int (([V.ref b1, V.ref b2] : List V).length : Int) = V.int 2) = true := decide_eq_true rfl
      rw [e2]
      refine iteF ?_
      refine ⟨_, rfl, T2, rfl, ⟨_, SqT.of hT4⟩, fun D hD => ?_⟩
      refine lc_bools (fun _ => true) (wk_tup (SqT.of hT4)) hD (by show 2 ≤ 1000000; decide) (fun i σ2 H' => ∃ bu u, H' bu = some (.tup (tI u)) ∧ (∀ x ∈ u, x < ms.length) ∧ u.length ≤ 50000 ∧ Same H4 H' ∧ σ2 = [some (.ref b), some (.ref a), some (.ref p), some (.ref T2), some (.ref bu)]) (fun i x H' Q' hi sm hx kk => ?_) ?_ ?_
      · match i, hx with
        | 0, hx =>
          cases hx
          exact kk _ rfl ⟨b1, u1, sm _ _ hb14, ho1, l1, sm, rfl⟩
        | 1, hx =>
          cases hx
          exact kk _ rfl ⟨b2, u2, sm _ _ hb24, ho2, l2, sm, rfl⟩
      · rintro i σ2 H' hi sm ⟨bu, u, hbu, hult, hull, _, rfl⟩ Q' q'
        exact ⟨_, rfl, _, rfl, b, _, rfl, .inl (SqL.of (sm _ _ hb4)), bu, u, ms.length, by rw [htm.1]; rfl, hbu, hult, hull, fun H2 s2 => q' _ _ s2 rfl⟩
      · intro H5 s5 hl5
        refine ⟨D, _, rfl, SqL.of hl5, ?_⟩
        rw [all_true]
        refine ⟨true, rfl, iteF ?_⟩
        have s05 := s4.trans s5
        refine ⟨_, rfl, _, rfl, _, rfl, T2, _, 0, .ref b1, rfl, rfl, SqT.of (s5 _ _ hT4), atI_nat (j := 0) rfl, b, b1, vms, ms, n, u1, rfl, s5 _ _ hb4, htm.same s05, hne, hP, hn, s5 _ _ hb14, ho1, l1, fun H6 c6 n6 s6 hc6 => ?_⟩
        have s56 := s5.trans s6
        refine ⟨_, rfl, _, rfl, T2, _, 1, .ref b2, rfl, rfl, SqT.of (s56 _ _ hT4), atI_nat (j := 1) rfl, b, b2, vms, ms, n, u2, rfl, s56 _ _ hb4, htm.same (s4.trans s56), hne, hP, hn, s56 _ _ hb24, ho2, l2, fun H7 c7 n7 s7 hc7 => ?_⟩
        have s57 := s56.trans s7
        refine ⟨c6, c7, n, _, _, rfl, s7 _ _ hc6, hc7, along_isP hP ho1, along_isP hP ho2, by omega, fun H8 c8 n8 s8 hc8 => ?_⟩
        have s58 := s57.trans s8
        have hPk := prodK_isP hP (prs.take i) fun p' hp' => hok p' (List.mem_of_mem_take hp')
        have hPe := exP_isP hP hokp
        refine ⟨p, c8, _, _, rfl, s58 _ _ (s34 _ _ h3p), hc8, fun y hy => by
          have e : (exch (along ms n u1) (along ms n u2)).length = n := hPe.1
          rw [e]
          exact hPk.2.2 y hy, by rw [hPk.1]; omega, fun H9 c9 n9 s9 hc9 => ?_⟩
        refine ⟨(s4.trans s58).trans s9, c9, _, rfl, (s4.trans s58).free n9, ?_⟩
        rw [hc9, List.take_succ, hpr]
        show _ = some (HO.tup (tI (prodK ms n (prs.take i ++ [[u1, u2]]))))
        rw [prodK_snoc]
        rfl
    · rintro σ H3 ⟨s3, p, v3, rfl, np, h3p⟩
      rw [List.take_of_length_le (by rw [hul]; exact Nat.le_refl _)] at h3p
      exact ⟨_, rfl, q _ p np s3 h3p⟩
end
end Kn
/-! G19 -/
set_option maxHeartbeats 1000000
namespace Kn
open PySem PySem.Spec PyProof.Rows L2
theorem sc_Knot_holds : FnScope ["self", "primes", "machine", "states", "rows", "makers", "word", "row", "pairs", "maker"] ["self", "primes"] (defScope s_Knot_holds) := ⟨rfl, rfl, rfl, by decide +kernel, rfl, by decide +kernel, by decide +kernel⟩
def sp_kholds (CM CK : Addr) : Sp := fun vs H Q _ => ∃ (x vp : Addr) (v : V) (M : Mc) (rs ss : List Nat) (ws : List (List Nat)) (ps : Prs), vs = [.ref x, .ref vp] ∧ IsM CM H v M ∧ IsKnot CK H x v ss ws ps ∧ KnotA M ss ws ps ∧ Rch M rs ∧ rs.length ≤ 6 ∧ ss.Sublist rs ∧ ss ≠ [] ∧ ∀ H', Same H H' → Q (.bl true) H'
section
variable {P : Program} {w : World} {K : Fr} {mg : Str → Option Value} {base : Heap} {fd : FuncData} {f CM CR CK : Addr}
theorem ok_kholds (F0 : FunD K "holds" "Knot.holds" (defArgs s_Knot_holds) (defBody s_Knot_holds) (defScope s_Knot_holds) [] [] f fd) (T : Bt mg) (cM : MCl K CM) (cK : KCl K CK) (F_M_reachable : Mo P w K mg base CM "reachable" ["self"] 3 (sp_reach CM)) (F_M_alphabet : Po P w K mg base CM "alphabet" 1 (sp_alph CM))
    (F_is_set : Fo P w K mg base "is_set" ["reached", "value"] 2 sp_isset) (F_are_words : Fo P w K mg base "are_words" ["alphabet", "value"] 2 sp_arew) (F_led_set : Fo P w K mg base "led_set" ["machine", "states", "word"] 4 (sp_ledset CM)) (F_inner : Fo P w K mg base "inner" ["states", "turn"] 1 sp_inner) (F_product_of : Fo P w K mg base "product_of" ["makers", "pairs"] 3 sp_prodof) : FnR P w K mg base CX0 7 f (spV (sp_kholds CM CK)) := by
  refine ofV F0 sc_Knot_holds (fun kV doc pm an cdv ct u rest h => ?_) (fun cdv A outer s H vs Q E hr h => ?_)
  · match rest, h with
    | [], _ => rfl
    | [_], _ => rfl
    | [_, _], _ => rfl
    | [_, _, _], _ => rfl
    | [_, _, _, _], _ => rfl
    | _ :: _ :: _ :: _ :: _ :: r, h => exact absurd h (by simp only [List.length_cons]; omega)
  · obtain ⟨x, vp, v, M, rs, ss, ws, ps, rfl, hM, hk, hka, hR, h6, hsub, hne, q⟩ := h
    refine ⟨_, PSs.nox (pss_cons (ps_asg (pe_tup (pa_cons (pe_fld (pv 0) rfl) (pa_cons (pe_fld (pv 0) rfl) pa_nil))) (pg_tupK K rfl (pgs_cons (pg_name (i := 2) sc_Knot_holds.nd rfl (Or.inr rfl)) (pgs_cons (pg_name (i := 3) sc_Knot_holds.nd rfl (Or.inr rfl)) pgs_nil))))
  (pss_cons (ps_if (PW.pt (pw_or (pt_not (pt_val (pc F_is_set hr (by rfl) (pa_cons (pm0 F_M_reachable cM.cls (pv 2) hr) (pa_cons (pv 3) pa_nil))))) (pw_or1 (pt_not (pt_val (pc F_are_words hr (by rfl) (pa_cons (pp F_M_alphabet cM.cls (pv 2) hr) (pa_cons (pe_fld (pv 0) rfl) pa_nil)))))))) (pss_one (ps_ret pe_bl)) pss_nil)
  (pss_cons (ps_setLc (i := 4) (own := [("word", 6)]) (g := gName 6) (tt := tYes) rfl sc_Knot_holds.nd rfl rfl (sw_true rfl rfl rfl (by decide +kernel)) (piT K (pe_fld (pv 0) rfl))
  (blkOk_by (N := ["self", "primes", "machine", "states", "rows", "makers", "word", "row", "pairs", "maker"]) (sc := defScope s_Knot_holds) (by decide +kernel)) (fun _ _ _ _ _ => pg_name (i := 6) sc_Knot_holds.nd rfl (Or.inl rfl)) (fun _ _ _ _ _ => pts_nil) (fun _ _ _ _ _ => (pc F_led_set hr (by rfl) (pa_cons (pv 2) (pa_cons (pv 3) (pa_cons (pv 6) pa_nil))))))
  (pss_cons (ps_if (PW.pt (pw_or (pt_not (pt_val (pe_callB (crAll K) (by rfl) T.all (by decide +kernel) (pa_cons (pe_lc (own := [("row", 7)]) (g := gName 7) (tt := tYes) rfl sc_Knot_holds.nd (piL K (pv 4))
  (blkOk_by (N := ["self", "primes", "machine", "states", "rows", "makers", "word", "row", "pairs", "maker"]) (sc := defScope s_Knot_holds) (by decide +kernel)) (fun _ _ _ _ _ => pg_name (i := 7) sc_Knot_holds.nd rfl (Or.inl rfl)) (fun _ _ _ _ _ => pts_nil) (fun _ _ _ _ _ => (pe_cmpR (opEqD K hr.units) (pe_callTy (callTupOf K) (by rfl) T.tuple (by decide +kernel) (pa_cons (pe_callB (cr_sortedTup K hr.units) (by rfl) T.sorted PyProof.Rows.Boot.«sorted» (pa_cons (pv 7) pa_nil)) pa_nil)) (pv 3) (nomark _)))) pa_nil)))) (pw_or1 (pt_val (pe_callB (crAll K) (by rfl) T.all (by decide +kernel) (pa_cons (pe_lc (own := [("row", 7)]) (g := gName 7) (tt := tYes) rfl sc_Knot_holds.nd (piL K (pv 4))
  (blkOk_by (N := ["self", "primes", "machine", "states", "rows", "makers", "word", "row", "pairs", "maker"]) (sc := defScope s_Knot_holds) (by decide +kernel)) (fun _ _ _ _ _ => pg_name (i := 7) sc_Knot_holds.nd rfl (Or.inl rfl)) (fun _ _ _ _ _ => pts_nil) (fun _ _ _ _ _ => (pe_cmpR (opEqD K hr.units) (pv 7) (pv 3) (nomark _)))) pa_nil)))))) (pss_one (ps_ret pe_bl)) pss_nil)
  (pss_cons (ps_set (i := 5) sc_Knot_holds.nd rfl (Or.inr rfl) (pe_lc (own := [("row", 7)]) (g := gName 7) (tt := tYes) rfl sc_Knot_holds.nd (piL K (pv 4))
  (blkOk_by (N := ["self", "primes", "machine", "states", "rows", "makers", "word", "row", "pairs", "maker"]) (sc := defScope s_Knot_holds) (by decide +kernel)) (fun _ _ _ _ _ => pg_name (i := 7) sc_Knot_holds.nd rfl (Or.inl rfl)) (fun _ _ _ _ _ => pts_nil) (fun _ _ _ _ _ => (pc F_inner hr (by rfl) (pa_cons (pv 3) (pa_cons (pv 7) pa_nil))))))
  (pss_cons (ps_if (PW.pt (pw_or (pt_not (pt_val (pe_callB (callIsi K) (by rfl) T.isinstance (by decide +kernel) (pa_cons (pe_fld (pv 0) rfl) (pa_cons (pe_bltn (v := .ty "tuple") (by rfl) T.tuple (by decide +kernel) rfl) pa_nil))))) (pw_or1 (pt_cmpR op_ne (pe_callB (callLenSeq K) (by rfl) T.len PySem.boot_len (pa_cons (pe_fld (pv 0) rfl) pa_nil)) (pe_callB (callLenSeq K) (by rfl) T.len PySem.boot_len (pa_cons (pv 5) pa_nil)) (nomark _))))) (pss_one (ps_ret pe_bl)) pss_nil)
  (pss_one (ps_ret (pe_callB (crAll K) (by rfl) T.all (by decide +kernel) (pa_cons (pe_lc (own := [("pairs", 8), ("maker", 9)]) (g := gTup K 2 (gCons (gName 8) (gCons (gName 9) gNil))) (tt := tYes) rfl sc_Knot_holds.nd (pi_zipG (by rfl) T.zip (pa_cons (pe_fld (pv 0) rfl) (pa_cons (pv 5) pa_nil)))
  (blkOk_by (N := ["self", "primes", "machine", "states", "rows", "makers", "word", "row", "pairs", "maker"]) (sc := defScope s_Knot_holds) (by decide +kernel)) (fun _ _ _ _ _ => (pg_tupK K rfl (pgs_cons (pg_name (i := 8) sc_Knot_holds.nd rfl (Or.inl rfl)) (pgs_cons (pg_name (i := 9) sc_Knot_holds.nd rfl (Or.inl rfl)) pgs_nil)))) (fun _ _ _ _ _ => pts_nil) (fun _ _ _ _ _ => (pe_cmpR (opEqD K hr.units) (pc F_product_of hr (by rfl) (pa_cons (pv 5) (pa_cons (pv 8) pa_nil))) (pv 9) (nomark _)))) pa_nil)))))))))), ?_⟩
    obtain ⟨dx, a0, o0, vw, vpr, hx, ha, hdn, hw, hp⟩ := hk
    obtain ⟨ok, am, dxm, bm, vrs, rfl, hm1, hm2, hm3⟩ := id hM
    have hss6 : ss.length ≤ 6 := Nat.le_trans hsub.length_le h6
    have hasc : ss.Pairwise (· < ·) := hR.asc.sublist hsub
    have hnd : ss.Nodup := hasc.imp fun {a b} h => by omega
    have hk3 := ok.k3
    have hfew := hka.few
    refine ⟨_, rfl, x, CK, dx, _, _, rfl, hx, cK.cls, cK.a1, rfl, _, rfl, x, CK, dx, _, _, rfl, hx, cK.cls, cK.a2, rfl, szl (by show 2 ≤ 1000000; decide), fun p np => ?_⟩
    refine ⟨p, _, rfl, SqT.of upd_same, rfl, _, _, rfl, _, _, rfl, rfl, ?_⟩
    have s1 : Same H (upd H p (.tup [.ref am, .ref a0])) := same_upd np
    generalize hH1 : upd H p (.tup [.ref am, .ref a0]) = H1 at s1
    refine ⟨_, rfl, am, dxm, _, rfl, s1 _ _ hm1, rfl, _, M, rfl, hM.same s1, fun H2 b rs' nb s2 hb hR' => ?_⟩
    obtain rfl := hR.uniq hR'
    have s02 := s1.trans s2
    refine ⟨_, rfl, b, a0, rs, ss, rfl, hb, .inr ⟨o0, s02 _ _ ha⟩, hne, by omega, fun s hs => hsub.subset hs, hasc, fun H3 s3 => ⟨true, rfl, iteF ?_⟩⟩
    have s03 := s02.trans s3
    refine ⟨_, rfl, am, dxm, _, rfl, s03 _ _ hm1, _, M, rfl, hM.same s03, _, rfl, x, CK, dx, _, _, rfl, s03 _ _ hx, cK.cls, cK.a3, rfl, vw, M.k, ws, rfl, by omega, stab_str.tup _ _ _ _ (Tame.of s03) hw, fun w' hw' => ⟨(hka.ok w' hw').1, by have := (hka.ok w' hw').2.1; omega⟩, by omega, fun H4 s4 => ⟨true, rfl, iteF ?_⟩⟩
    have s04 := s03.trans s4
    obtain ⟨aw, us, rfl, haw, husl, hus⟩ := stab_str.tup _ _ _ _ (Tame.of s04) hw
    refine ⟨_, rfl, x, CK, dx, _, _, rfl, s04 _ _ hx, cK.cls, cK.a3, rfl, aw, rfl, ⟨_, SqT.of haw⟩, fun D nD => ?_⟩
    refine lc_map (wk_tup (K := K) (SqT.of haw)) nD (by omega) (fun i σ2 H' => ∃ w', ws[i]? = some w' ∧ σ2 = [some (.ref x), some (.ref vp), some (.ref am), some (.ref a0), none, none, some (.str (txt w')), none, none, none]) (fun i y H' => ∃ w', ws[i]? = some w' ∧ Tup H' y (rowOf M ss w')) ?_ ?_ ?_ ?_
    · rintro i y Ha Hb _ t ⟨w', h1, h2⟩
      exact ⟨w', h1, h2.tame t⟩
    · rintro i y H' Q' hi sm hy kk
      obtain ⟨w', h1, h2⟩ := hus i y hy
      have h2 : y = .str (txt w') := h2
      subst h2
      exact kk _ rfl ⟨w', h1, rfl⟩
    · rintro i σ2 H' hi sm ⟨w', h1, rfl⟩ Q' q'
      obtain ⟨k1, k2, k3, k4⟩ := hka.ok w' (List.mem_of_getElem? h1)
      exact ⟨_, rfl, _, rfl, _, rfl, .ref am, M, a0, ss, w', rfl, hM.same (s04.trans sm), .inr ⟨o0, sm _ _ (s04 _ _ ha)⟩, by omega, fun s hs => hR.rc.lt s (hsub.subset hs), k1, by omega, fun H5 b5 n5 s5 hb5 => q' _ _ s5 ⟨w', h1, b5, rfl, hb5⟩⟩
    · intro zs H5 s5 hD5 hzl hzr
      have s05 := s04.trans s5
      have hzl' : zs.length = ws.length := by rw [hzl, husl]
      have hrows : ∀ w' ∈ ws, rowOf M ss w' ≠ ss := fun w' hw' e => (hka.ok w' hw').2.2.2 (by
        have := mk_nil (M := M) hnd
        rw [← this]
        unfold mk
        rw [e]
        show _ = (rowOf M ss []).map _
        have e2 : rowOf M ss [] = ss := List.map_id' ss
        rw [e2])
      refine ⟨_, rfl, D, rfl, ⟨_, SqL.of hD5⟩, fun D2 nD2 => ?_⟩
      refine lc_bools (fun _ => true) (wk_lst (K := K) (SqL.of hD5)) nD2 (by omega) (fun i σ2 H' => ∃ ar w', ws[i]? = some w' ∧ H' ar = some (.tup (tI (rowOf M ss w'))) ∧ σ2 = [some (.ref x), some (.ref vp), some (.ref am), some (.ref a0), some (.ref D), none, none, some (.ref ar), none, none]) (fun i y H' Q' hi sm hy kk => ?_) ?_ ?_
      · obtain ⟨w', h1, ar, rfl, har⟩ := hzr i y hy
        exact kk _ rfl ⟨ar, w', h1, sm _ _ har, rfl⟩
      · rintro i σ2 H' hi sm ⟨ar, w', h1, har, rfl⟩ Q' q'
        have hP := (hka.ok w' (List.mem_of_getElem? h1)).2.2.1
        refine ⟨_, rfl, ar, _, rfl, SqT.of har, fun p5 ns' np5 hp5 hs5 => ⟨p5, _, rfl, .inl ⟨SqL.of upd_same, fun p6 np6 => ?_⟩⟩⟩
        have s56 : Same H' (upd (upd H' p5 (.lst (tI ns'))) p6 (.tup (tI ns'))) := (same_upd np5).trans (same_upd np6)
        refine ⟨_, rfl, eqd_T (SqT.of upd_same) (.inl (.inr ⟨o0, s56 _ _ (sm _ _ (s05 _ _ ha))⟩)) (q' _ _ s56 ?_)⟩
        rw [decide_eq_true ((perm_asc hp5 hs5 hasc).mpr hP)]
      · intro H6 s6 hl6
        refine ⟨D2, _, rfl, SqL.of hl6, ?_⟩
        rw [all_true]
        refine ⟨true, rfl, iteF ?_⟩
        have hD6 := s6 _ _ hD5
        have s06 := s05.trans s6
        refine ⟨_, rfl, D, rfl, ⟨_, SqL.of hD6⟩, fun D3 nD3 => ?_⟩
        refine lc_bools (fun i => decide (rowOf M ss (ws.getD i []) = ss)) (wk_lst (K := K) (SqL.of hD6)) nD3 (by omega) (fun i σ2 H' => ∃ ar w', ws[i]? = some w' ∧ H' ar = some (.tup (tI (rowOf M ss w'))) ∧ σ2 = [some (.ref x), some (.ref vp), some (.ref am), some (.ref a0), some (.ref D), none, none, some (.ref ar), none, none]) (fun i y H' Q' hi sm hy kk => ?_) ?_ ?_
        · obtain ⟨w', h1, ar, rfl, har⟩ := hzr i y hy
          exact kk _ rfl ⟨ar, w', h1, sm _ _ (s6 _ _ har), rfl⟩
        · rintro i σ2 H' hi sm ⟨ar, w', h1, har, rfl⟩ Q' q'
          refine ⟨_, rfl, _, rfl, eqd_T (SqT.of har) (.inl (.inr ⟨o0, sm _ _ (s06 _ _ ha)⟩)) (q' _ _ (Same.refl _) ?_)⟩
          have e : ws.getD i [] = w' := by rw [List.getD_eq_getElem?_getD, h1]; rfl
          rw [e]
        · intro H7 s7 hl7
          have hall : (((List.range zs.length).map fun i => decide (rowOf M ss (ws.getD i []) = ss)).all id) = false := by
            refine Bool.eq_false_iff.mpr fun z => ?_
            have h0 : 0 < ws.length := List.length_pos_iff.mpr hka.ne
            have := all_range.mp z 0 (by omega)
            have e : ws.getD 0 [] = ws[0] := by rw [List.getD_eq_getElem?_getD, List.getElem?_eq_getElem h0]; rfl
            rw [e] at this
            exact hrows _ (List.getElem_mem h0) (of_decide_eq_true this)
          refine ⟨D3, _, rfl, SqL.of hl7, ?_⟩
          rw [hall]
          refine ⟨false, rfl, iteF ?_⟩
          have hD7 := s7 _ _ hD6
          have s07 := s06.trans s7
          refine ⟨_, rfl, D, rfl, ⟨_, SqL.of hD7⟩, fun D4 nD4 => ?_⟩
          refine lc_map (wk_lst (K := K) (SqL.of hD7)) nD4 (by omega) (fun i σ2 H' => ∃ ar w', ws[i]? = some w' ∧ H' ar = some (.tup (tI (rowOf M ss w'))) ∧ σ2 = [some (.ref x), some (.ref vp), some (.ref am), some (.ref a0), some (.ref D), none, none, some (.ref ar), none, none]) (fun i y H' => ∃ w', ws[i]? = some w' ∧ Tup H' y (mk M ss w')) ?_ ?_ ?_ ?_
          · rintro i y Ha Hb _ t ⟨w', h1, h2⟩
            exact ⟨w', h1, h2.tame t⟩
          · rintro i y H' Q' hi sm hy kk
            obtain ⟨w', h1, ar, rfl, har⟩ := hzr i y hy
            exact kk _ rfl ⟨ar, w', h1, sm _ _ (s7 _ _ (s6 _ _ har)), rfl⟩
          · rintro i σ2 H' hi sm ⟨ar, w', h1, har, rfl⟩ Q' q'
            have hP := (hka.ok w' (List.mem_of_getElem? h1)).2.2.1
            exact ⟨_, rfl, _, rfl, ar, .ref a0, ss, rowOf M ss w', rfl, ⟨a0, o0, rfl, sm _ _ (s07 _ _ ha), hdn⟩, .inl har, by rw [hP.length_eq]; omega, fun s hs => hP.mem_iff.mp hs, fun H'' c nc sc hc => q' _ _ sc ⟨w', h1, c, rfl, hc⟩⟩
          · intro ms' H8 s8 hD8 hml hmr
            have s08 := s07.trans s8
            have hml' : ms'.length = ws.length := by rw [hml, hzl']
            obtain ⟨hpz, ap, ups, rfl, hap, hupl, hups⟩ := stab_pr _ _ _ _ (Tame.of s08) hp
            have hx8 := s08 _ _ hx
            have htl : TL H8 ms' (ws.map (mk M ss)) := ⟨by rw [List.length_map, hml'], fun i y e => by
              obtain ⟨w', h1, h2⟩ := hmr i y e
              exact ⟨mk M ss w', by rw [List.getElem?_map, h1]; rfl, h2⟩⟩
            have hmP : ∀ m ∈ ws.map (mk M ss), IsP ss.length m := fun m hm => by
              obtain ⟨w', h1, rfl⟩ := List.mem_map.mp hm
              exact mk_isP hnd (hka.ok w' h1).2.2.1
            have hmne : ws.map (mk M ss) ≠ [] := fun e => hka.ne (List.map_eq_nil_iff.mp e)
            refine ⟨_, rfl, x, CK, dx, _, _, rfl, hx8, cK.cls, cK.a4, rfl, _, _, _, _, _, rfl, .ty _, tyT hap, kit_ty k_tt, true, rfl, iteF ?_⟩
            refine ⟨_, rfl, x, CK, dx, _, _, rfl, hx8, cK.cls, cK.a4, rfl, ap, _, rfl, .inr (SqT.of hap), _, rfl, D4, _, rfl, .inl (SqL.of hD8), rfl, _, rfl, ?_⟩
            have el : decide (V.int (ups.length : Int) = V.int (ms'.length : Int)) = true := decide_eq_true (by rw [hupl, hka.len, hml'])
            rw [el]
            refine iteF ?_
            refine ⟨_, rfl, x, CK, dx, _, _, rfl, hx8, cK.cls, cK.a4, rfl, _, rfl, _, _, _, _, _, _, rfl, .tup ap ups, .lst D4 ms', hap, hD8, fun D5 nD5 => ?_⟩
            have W := wk_zip (H0 := H8) (.tup ap ups) (.lst D4 ms') hap hD8
            refine lc_bools (fun _ => true) W nD5 (by omega) (fun i σ2 H' => ∃ pv am' w' prs, ws[i]? = some w' ∧ ps[i]? = some prs ∧ BTup PaV H' pv prs ∧ H' am' = some (.tup (tI (mk M ss w'))) ∧ Same H8 H' ∧ σ2 = [some (.ref x), some (.ref vp), some (.ref am), some (.ref a0), some (.ref D), some (.ref D4), none, none, some pv, some (.ref am')]) ?_ ?_ ?_
            · rintro i y H' Q' hi sm ⟨T2, x1, y1, rfl, hT2, h1, h2⟩ kk
              obtain ⟨prs, hp1, hp2⟩ := hups i x1 h1
              obtain ⟨w', hw1, am', rfl, ham'⟩ := hmr i y1 h2
              exact ⟨T2, _, rfl, SqT.of hT2, rfl, _, _, rfl, _, _, rfl, rfl, kk _ rfl ⟨x1, am', w', prs, hw1, hp1, stab_pa.btup _ _ _ _ (Tame.of sm) hp2, sm _ _ ham', sm, rfl⟩⟩
            · rintro i σ2 H' hi sm ⟨pv, am', w', prs, hw1, hp1, hp2, ham', sm', rfl⟩ Q' q'
              obtain ⟨g1, g2⟩ := hka.pr i prs w' hp1 hw1
              refine ⟨_, rfl, _, rfl, D4, pv, ms', ws.map (mk M ss), ss.length, prs, rfl, sm' _ _ hD8, htl.same sm', hmne, hmP, hss6, hp2, fun p hp => by rw [List.length_map]; exact g1 p hp, fun H'' c nc sc hc => ⟨_, rfl, eqd_T (SqT.of hc) (SqT.of (sc _ _ ham')) (q' _ _ sc ?_)⟩⟩
              rw [decide_eq_true g2]
            · intro H9 s9 hl9
              refine ⟨D5, _, rfl, SqL.of hl9, ?_⟩
              rw [all_true]
              exact q _ (s08.trans s9)
end
end Kn
/-! G20 -/
set_option maxHeartbeats 1000000
namespace Kn
open PySem PySem.Spec PyProof.Rows L2
theorem sc_Ring_holds : FnScope ["self", "primes", "machine", "states", "state"] ["self", "primes"] (defScope s_Ring_holds) := ⟨rfl, rfl, rfl, by decide +kernel, rfl, by decide +kernel, by decide +kernel⟩
def sp_rholds (CM CR : Addr) : Sp := fun vs H Q _ => ∃ (x vp : Addr) (v : V) (M : Mc) (rs ss ps wd ns : List Nat), vs = [.ref x, .ref vp] ∧ IsM CM H v M ∧ IsRing CR H x v wd ns ∧ RingA M ss ps wd ns ∧ Rch M rs ∧ rs.length ≤ 6 ∧ ss.Sublist rs ∧ H vp = some (.tup (tI ps)) ∧ ∀ H', Same H H' → Q (.bl true) H'
section
variable {P : Program} {w : World} {K : Fr} {mg : Str → Option Value} {base : Heap} {fd : FuncData} {f CM CR CK : Addr}
theorem ok_rholds (F0 : FunD K "holds" "Ring.holds" (defArgs s_Ring_holds) (defBody s_Ring_holds) (defScope s_Ring_holds) [] [] f fd) (T : Bt mg) (cM : MCl K CM) (cR : RCl K CR) (F_M_reachable : Mo P w K mg base CM "reachable" ["self"] 3 (sp_reach CM)) (F_M_alphabet : Po P w K mg base CM "alphabet" 1 (sp_alph CM))
    (F_is_set : Fo P w K mg base "is_set" ["reached", "value"] 2 sp_isset) (F_is_word : Fo P w K mg base "is_word" ["alphabet", "value"] 1 sp_isw) (F_is_number2 : FoD P w K mg base "is_number" ["value", "least", "most"] 1 sp_number [.non]) (F_is_prime : Fo P w K mg base "is_prime" ["value", "most"] 2 sp_prime) (F_led_set : Fo P w K mg base "led_set" ["machine", "states", "word"] 4 (sp_ledset CM)) : FnR P w K mg base CX0 7 f (spV (sp_rholds CM CR)) := by
  refine ofV F0 sc_Ring_holds (fun kV doc pm an cdv ct u rest h => ?_) (fun cdv A outer s H vs Q E hr h => ?_)
  · match rest, h with
    | [], _ => rfl
    | [_], _ => rfl
    | [_, _], _ => rfl
    | [_, _, _], _ => rfl
    | [_, _, _, _], _ => rfl
    | _ :: _ :: _ :: _ :: _ :: r, h => exact absurd h (by simp only [List.length_cons]; omega)
  · obtain ⟨x, vp, v, M, rs, ss, ps, wd, ns, rfl, hM, hk, hka, hR, h6, hsub, hvp, q⟩ := h
    refine ⟨_, PSs.nox (pss_cons (ps_par (by rfl) sc_Ring_holds.nd (i := 2) (j := 3) rfl rfl (by decide) rfl rfl (pa_cons (pe_fld (pv 0) rfl) (pa_cons (pe_fld (pv 0) rfl) pa_nil)) (by rfl))
  (pss_cons (ps_if (PW.pt (pw_or (pt_not (pt_val (pc F_is_word hr (by rfl) (pa_cons (pp F_M_alphabet cM.cls (pv 2) hr) (pa_cons (pe_fld (pv 0) rfl) pa_nil))))) (pw_or (pt_not (pt_val (pe_callB (callIsi K) (by rfl) T.isinstance (by decide +kernel) (pa_cons (pv 3) (pa_cons (pe_bltn (v := .ty "tuple") (by rfl) T.tuple (by decide +kernel) rfl) pa_nil))))) (pw_or1 (pt_cmpR op_eq (pe_callB (callLenSeq K) (by rfl) T.len PySem.boot_len (pa_cons (pv 3) pa_nil)) pe_int (nomark _)))))) (pss_one (ps_ret pe_bl)) pss_nil)
  (pss_cons (ps_if (PW.pt (pw_or (pt_not (pt_val (pe_callB (crAll K) (by rfl) T.all (by decide +kernel) (pa_cons (pe_lc (own := [("state", 4)]) (g := gName 4) (tt := tYes) rfl sc_Ring_holds.nd (piT K (pv 3))
  (blkOk_by (N := ["self", "primes", "machine", "states", "state"]) (sc := defScope s_Ring_holds) (by decide +kernel)) (fun _ _ _ _ _ => pg_name (i := 4) sc_Ring_holds.nd rfl (Or.inl rfl)) (fun _ _ _ _ _ => pts_nil) (fun _ _ _ _ _ => (pcD F_is_number2 hr (by rfl) (pa_cons (pv 4) (pa_cons pe_int pa_nil))))) pa_nil)))) (pw_or1 (pt_not (pt_val (pc F_is_set hr (by rfl) (pa_cons (pm0 F_M_reachable cM.cls (pv 2) hr) (pa_cons (pe_callTy (callTupOf K) (by rfl) T.tuple (by decide +kernel) (pa_cons (pe_callB (cr_sortedTup K hr.units) (by rfl) T.sorted PyProof.Rows.Boot.«sorted» (pa_cons (pv 3) pa_nil)) pa_nil)) pa_nil)))))))) (pss_one (ps_ret pe_bl)) pss_nil)
  (pss_cons (ps_if (PW.pt (pw_or (pt_not (pt_val (pc F_is_prime hr (by rfl) (pa_cons (pe_callB (callLenSeq K) (by rfl) T.len PySem.boot_len (pa_cons (pv 3) pa_nil)) (pa_cons (pe_callB (callLenSeq K) (by rfl) T.len PySem.boot_len (pa_cons (pv 3) pa_nil)) pa_nil))))) (pw_or1 (pt_cmpR (opInSeq K) (pe_callB (callLenSeq K) (by rfl) T.len PySem.boot_len (pa_cons (pv 3) pa_nil)) (pv 1) (by rfl))))) (pss_one (ps_ret pe_bl)) pss_nil)
  (pss_one (ps_ret (pe_cmpR (opEqD K hr.units) (pc F_led_set hr (by rfl) (pa_cons (pv 2) (pa_cons (pv 3) (pa_cons (pe_fld (pv 0) rfl) pa_nil)))) (pe_tup (pa_starK K (pe_slice (slT K) (pv 3) (po_some pe_int) po_none) (pa_cons (pe_ix (ixT K) (pv 3) pe_int (fun _ _ => rfl)) pa_nil))) (nomark _)))))))), ?_⟩
    obtain ⟨dx, a0, o0, hx, ha, hdn⟩ := hk
    obtain ⟨ok, am, dxm, bm, vrs, rfl, hm1, hm2, hm3⟩ := id hM
    have hnl : ns.length ≤ 6 := by
      have := len_sub (m := rs) hka.nd fun s hs => hsub.subset (hka.sub s hs)
      omega
    have hk3 := ok.k3
    have hn0 : ns.length ≠ 0 := fun e => by have := hka.pr; rw [e] at this; exact absurd this (by decide)
    have hns8 : ns.length ≤ 8 := by omega
    have rd : ∀ {H' : Hp}, Same H H' → Rd H' a0 (.tup (tI ns)) := fun s => .inr ⟨o0, s _ _ ha⟩
    refine ⟨_, rfl, x, CR, dx, _, _, rfl, hx, cR.cls, cR.a1, rfl, _, rfl, x, CR, dx, _, _, rfl, hx, cR.cls, cR.a3, rfl, _, _, rfl, ?_⟩
    refine ⟨_, rfl, am, dxm, _, rfl, hm1, _, M, rfl, hM, _, rfl, x, CR, dx, _, _, rfl, hx, cR.cls, cR.a2, rfl, M.k, wd, rfl, by omega, hka.wdk, hka.wl, fun H1 s1 => ⟨true, rfl, iteF ?_⟩⟩
    refine ⟨_, rfl, _, _, _, _, _, rfl, .ty _, tyTz (rd s1), kit_ty k_tt, true, rfl, iteF ?_⟩
    refine ⟨_, rfl, a0, _, rfl, .inr (rd s1).sq, rfl, _, rfl, ?_⟩
    have e0 : (decide (V.int ((tI ns).length : Int) = V.int 0)) = false := decide_eq_false fun e => by
      injection e with e
      rw [tI_len] at e
      omega
    rw [e0]
    refine iteF ?_
    refine ⟨_, rfl, a0, rfl, ⟨_, (rd s1).sq⟩, fun D nD => ?_⟩
    refine lc_bools (fun _ => true) (wk_tup (rd s1).sq) nD (by rw [tI_len]; omega) (fun i σ2 _ => ∃ y : Nat, σ2 = [some (.ref x), some (.ref vp), some (.ref am), some (.ref a0), some (.int (y : Int))]) (fun i y H' Q' hi sm hy kk => ?_) ?_ ?_
    · obtain ⟨z, hz, rfl⟩ := tI_get hy
      exact kk _ rfl ⟨z, rfl⟩
    · rintro i σ2 H' hi sm ⟨y, rfl⟩ Q' q'
      refine ⟨_, rfl, (y : Int), 0, _, rfl, .inl rfl, q' _ _ (Same.refl _) ?_⟩
      show V.bl _ = V.bl true
      congr 1
    · intro H2 s2 hl2
      refine ⟨D, _, rfl, SqL.of hl2, ?_⟩
      rw [all_true]
      refine ⟨true, rfl, iteF ?_⟩
      have s02 := s1.trans s2
      refine ⟨_, rfl, am, dxm, _, rfl, s02 _ _ hm1, rfl, _, M, rfl, hM.same s02, fun H3 b rs' nb s3 hb hR' => ?_⟩
      obtain rfl := hR.uniq hR'
      have s03 := s02.trans s3
      refine ⟨_, rfl, a0, ns, rfl, (rd s03).sq, fun p5 ns' np5 hp5 hs5 => ⟨p5, _, rfl, .inl ⟨SqL.of upd_same, fun p6 np6 => ?_⟩⟩⟩
      have s35 : Same H3 (upd (upd H3 p5 (.lst (tI ns'))) p6 (.tup (tI ns'))) := (same_upd np5).trans (same_upd np6)
      refine ⟨b, p6, rs, ns', rfl, s35 _ _ hb, .inl upd_same, fun e => hn0 (by rw [← hp5.length_eq, e]; rfl), by rw [hp5.length_eq]; omega, fun s hs => hsub.subset (hka.sub s (hp5.mem_iff.mp hs)), nd_asc hs5 (hp5.nodup_iff.mpr hka.nd), fun H6 s6 => ⟨true, rfl, iteF ?_⟩⟩
      have s06 := s03.trans (s35.trans s6)
      refine ⟨_, rfl, a0, _, rfl, .inr (rd s06).sq, _, rfl, a0, _, rfl, .inr (rd s06).sq, ns.length, (ns.length : Int), by rw [tI_len]; rfl, hns8, Int.le_refl _, _, rfl, ?_⟩
      rw [hka.pr]
      refine iteF ?_
      refine ⟨_, rfl, a0, _, rfl, .inr (rd s06).sq, _, rfl, vp, tI ps, rfl, .inr (SqT.of (s06 _ _ hvp)), rfl, tI_flat _, _, rfl, ?_⟩
      rw [tI_len, inV_tI, decide_eq_false hka.no]
      refine iteF ?_
      refine ⟨_, rfl, _, rfl, _, rfl, x, CR, dx, _, _, rfl, s06 _ _ hx, cR.cls, cR.a2, rfl, .ref am, M, a0, ns, wd, rfl, hM.same s06, rd s06, by omega, fun s hs => hR.rc.lt s (hsub.subset (hka.sub s hs)), hka.wdk, hka.wl, fun H7 c nc sc hc => ?_⟩
      have s07 := s06.trans sc
      have hlo : HT.sIx (tI ns).length 0 (some 1) = 1 := by
        rw [show (some (1 : Int)) = some ((1 : Nat) : Int) from rfl, HT.sIx_nat, tI_len]
        omega
      have hcut : cutV (tI ns) (some 1) none = tI (ns.drop 1) := by
        unfold cutV
        rw [hlo, HT.sIx_none, List.take_of_length_le (by rw [List.length_drop]; exact Nat.le_refl _)]
        unfold tI
        rw [List.map_drop]
      obtain ⟨n0, hn0'⟩ : ∃ n0, ns[0]? = some n0 := ⟨_, List.getElem?_eq_getElem (by omega)⟩
      refine ⟨_, rfl, 1, rfl, a0, tI ns, rfl, (rd s07).sq, (fun z => by rw [hlo] at z; omega), fun p8 np8 => ?_⟩
      rw [hcut]
      have s8 : Same H7 (upd H7 p8 (.tup (tI (ns.drop 1)))) := same_upd np8
      refine ⟨p8, _, rfl, .inl (SqT.of upd_same), _, rfl, a0, tI ns, 0, .int (n0 : Int), rfl, rfl, (rd (s07.trans s8)).sq, atI_nat (j := 0) (tI_at hn0'), szl (by rw [List.length_append, tI_len, List.length_drop]; show ns.length - 1 + 1 ≤ _; omega), fun pt npt => ?_⟩
      have s9 := s8.trans (same_upd (o := .tup (tI (ns.drop 1) ++ [V.int (n0 : Int)])) npt)
      have e9 : tI (ns.drop 1) ++ [V.int (n0 : Int)] = tI (ns.drop 1 ++ ns.take 1) := by
        unfold tI
        rw [List.map_append]
        congr 1
        cases h : ns with
        | nil => rw [h] at hn0'; cases hn0'
        | cons y r => rw [h] at hn0'; cases hn0'; rfl
      refine eqd_T (SqT.of (s9 _ _ hc)) (SqT.of (by rw [upd_same, e9])) ?_
      rw [decide_eq_true hka.rot]
      exact q _ (s07.trans s9)
end
end Kn
/-! G21 -/
set_option maxHeartbeats 1000000
namespace Kn
open PySem PySem.Spec PyProof.Rows L2
theorem sc_Knot_told : FnScope ["self"] ["self"] (defScope s_Knot_told) := ⟨rfl, rfl, rfl, by decide +kernel, rfl, by decide +kernel, by decide +kernel⟩
theorem sc_Answer_is_built : FnScope ["self"] ["self"] (defScope s_Answer_is_built) := ⟨rfl, rfl, rfl, by decide +kernel, rfl, by decide +kernel, by decide +kernel⟩
theorem sc_Answer___repr__ : FnScope ["self"] ["self"] (defScope s_Answer___repr__) := ⟨rfl, rfl, rfl, by decide +kernel, rfl, by decide +kernel, by decide +kernel⟩
/-- what a knot of n words tells -/
def toldK (n : Nat) : Str := "knot of " ++ toString (n : Int) ++ " words"
def sp_ktold (CK : Addr) : Sp := fun vs H Q _ => ∃ (x : Addr) (v : V) (ss : List Nat) (ws : List (List Nat)) (ps : Prs), vs = [.ref x] ∧ IsKnot CK H x v ss ws ps ∧ ws.length ≤ 50000 ∧ Q (.str (toldK ws.length)) H
def sp_krepr (CK : Addr) : Sp := fun vs H Q _ => ∃ (x : Addr) (v : V) (ss : List Nat) (ws : List (List Nat)) (ps : Prs), vs = [.ref x] ∧ IsKnot CK H x v ss ws ps ∧ ws.length ≤ 50000 ∧ Q (.str ("Answer(" ++ toldK ws.length ++ ")")) H
def sp_isbuilt : Sp := fun vs H Q _ => ∃ x : Addr, vs = [.ref x] ∧ Q (.bl false) H
theorem log_small {n : Nat} (h : n ≤ 50000) : (n : Int).natAbs.log2 < 1920 := by
  have e : (n : Int).natAbs = n := Int.natAbs_natCast n
  rw [e]
  by_cases z : n = 0
  · rw [z]; decide
  · have : n.log2 < 16 := (Nat.log2_lt z).mpr (by omega)
    omega
theorem str_app_len (a b : Str) : (a ++ b).length = a.length + b.length := by
  show (a.cps ++ b.cps).size = _
  rw [Array.size_append]
  rfl
theorem toldK_len {n : Nat} (h : n ≤ 50000) : (toldK n).length ≤ 2000 := by
  have := PyProof.Rows.int_text_len_1921 (log_small h)
  unfold toldK
  rw [str_app_len, str_app_len]
  show 8 + _ + 6 ≤ 2000
  omega
section
variable {P : Program} {w : World} {K : Fr} {mg : Str → Option Value} {base : Heap} {fd : FuncData} {f CM CR CK : Addr}
theorem ok_ktold (F0 : FunD K "told" "Knot.told" (defArgs s_Knot_told) (defBody s_Knot_told) (defScope s_Knot_told) [] [] f fd) (T : Bt mg) (cK : KCl K CK) : FnOk P w K mg base CX0 1 f fd ["self"] (sp_ktold CK) := by
  refine F0.ok sc_Knot_told (fun vs H Q E h => ?_) (fun cdv A outer s H vs Q E hr h => ?_)
  · obtain ⟨x, v, ss, ws, ps, rfl, _⟩ := h
    rfl
  · obtain ⟨x, v, ss, ws, ps, rfl, ⟨dx, a, o, vw, vp, hx, ha, hd, ⟨aw, us, rfl, haw, hul, _⟩, hp⟩, hl, q⟩ := h
    refine ⟨_, PSs.nox (pss_one (ps_ret (pe_joined (.cons pe_str (.cons (pe_fmt (pe_callB (callLenSeq K) (by rfl) T.len PySem.boot_len (pa_cons (pe_fld (pv 0) rfl) pa_nil))) (.cons pe_str .nil)))))), ?_⟩
    have hb := PyProof.Rows.int_text_len_1921 (log_small (n := us.length) (by omega))
    refine ⟨"knot of ", rfl, szl (by decide), _, rfl, x, CK, dx, _, _, rfl, hx, cK.cls, cK.a3, rfl, aw, _, rfl, .inr (SqT.of haw), .inr ⟨(us.length : Int), rfl, log_small (by omega), toString (us.length : Int), rfl, szl (by rw [str_app_len]; show 8 + _ ≤ 1000000; omega), " words", rfl, szl (by rw [str_app_len, str_app_len]; show 8 + _ + 6 ≤ 1000000; omega), ?_⟩⟩
    rw [hul]
    exact q
theorem ok_isbuilt (F0 : FunD K "is_built" "Answer.is_built" (defArgs s_Answer_is_built) (defBody s_Answer_is_built) (defScope s_Answer_is_built) [] [] f fd) : FnOk P w K mg base CX0 1 f fd ["self"] sp_isbuilt := by
  refine F0.ok sc_Answer_is_built (fun vs H Q E h => ?_) (fun cdv A outer s H vs Q E hr h => ?_)
  · obtain ⟨x, rfl, _⟩ := h
    rfl
  · obtain ⟨x, rfl, q⟩ := h
    refine ⟨_, PSs.nox (pss_one (ps_ret pe_bl)), ?_⟩
    exact q
theorem ok_krepr (F0 : FunD K "__repr__" "Answer.__repr__" (defArgs s_Answer___repr__) (defBody s_Answer___repr__) (defScope s_Answer___repr__) [] [] f fd) (cK : KCl K CK) (F_K_told : Mo P w K mg base CK "told" ["self"] 1 (sp_ktold CK)) : FnOk P w K mg base CX0 2 f fd ["self"] (sp_krepr CK) := by
  refine F0.ok sc_Answer___repr__ (fun vs H Q E h => ?_) (fun cdv A outer s H vs Q E hr h => ?_)
  · obtain ⟨x, v, ss, ws, ps, rfl, _⟩ := h
    rfl
  · obtain ⟨x, v, ss, ws, ps, rfl, hk, hl, q⟩ := h
    obtain ⟨dx, a, o, vw, vp, hx, _⟩ := id hk
    refine ⟨_, PSs.nox (pss_one (ps_ret (pe_joined (.cons pe_str (.cons (pe_fmt (pm0 F_K_told cK.cls (pv 0) hr)) (.cons pe_str .nil)))))), ?_⟩
    have hb := toldK_len hl
    refine ⟨"Answer(", rfl, szl (by decide), _, rfl, x, dx, _, rfl, hx, rfl, x, v, ss, ws, ps, rfl, hk, hl, .inl ⟨toldK ws.length, rfl, szl (by omega), toldK ws.length, rfl, szl (by rw [str_app_len]; show 7 + _ ≤ 1000000; omega), ")", rfl, szl (by rw [str_app_len, str_app_len]; show 7 + _ + 1 ≤ 1000000; omega), ?_⟩⟩
    exact q
end
end Kn
/-! H1 -/
set_option maxHeartbeats 1000000
namespace Kn
open PySem PySem.Spec PyProof.Rows L2
theorem sc__law_product : FnScope ["_law_one", "_law_other", "_law_k"] ["_law_one", "_law_other"] (defScope s__law_product) := ⟨rfl, rfl, rfl, by decide +kernel, rfl, by decide +kernel, by decide +kernel⟩
theorem sc__law_exchanged : FnScope ["_law_one", "_law_other"] ["_law_one", "_law_other"] (defScope s__law_exchanged) := ⟨rfl, rfl, rfl, by decide +kernel, rfl, by decide +kernel, by decide +kernel⟩
theorem sc__law_along : FnScope ["_law_makers", "_law_indexes", "_law_found", "_law_index"] ["_law_makers", "_law_indexes"] (defScope s__law_along) := ⟨rfl, rfl, rfl, by decide +kernel, rfl, by decide +kernel, by decide +kernel⟩
theorem rg_still (n : Nat) : rgV 0 (n : Int) = tI (still n) := by
  refine eq_tI (by rw [rgV_length]; show _ = (List.range n).length; rw [List.length_range]; omega) fun i y h => ?_
  unfold rgV at h
  rw [List.getElem?_map] at h
  have hi : i < ((n : Int) - 0).toNat := by
    cases e : (List.range ((n : Int) - 0).toNat)[i]? with
    | none => rw [e] at h; cases h
    | some j => have := (List.getElem?_eq_some_iff.mp e).1; rwa [List.length_range] at this
  rw [range_get hi] at h
  refine ⟨i, range_get (by omega), ?_⟩
  have := Option.some.inj h
  rw [← this]
  simp
section
variable {P : Program} {w : World} {K : Fr} {mg : Str → Option Value} {base : Heap} {fd : FuncData} {f : Addr}
theorem ok_lproduct (F0 : FnP K "_law_product" s__law_product f fd) (T : Bt mg) : FnOk P w K mg base CX0 1 f fd ["_law_one", "_law_other"] sp_product := by
  refine F0.ok sc__law_product (fun vs H Q E h => ?_) (fun cdv A outer s H vs Q E hr h => ?_)
  · obtain ⟨a, b, xs, ys, rfl, _⟩ := h
    rfl
  · obtain ⟨a, b, xs, ys, rfl, ha, hb, hlt, hlen, q⟩ := h
    refine ⟨_, PSs.nox (pss_one (ps_ret (pe_callTy (callTupOf K) (by rfl) T.tuple (by decide +kernel) (pa_cons (pe_lc (own := [("_law_k", 2)]) (g := gName 2) (tt := tYes) rfl sc__law_product.nd (piT K (pv 0))
  (blkOk_by (N := ["_law_one", "_law_other", "_law_k"]) (sc := defScope s__law_product) (by decide +kernel)) (fun _ _ _ _ _ => pg_name (i := 2) sc__law_product.nd rfl (Or.inl rfl)) (fun _ _ _ _ _ => pts_nil) (fun _ _ _ _ _ => (pe_ix (ixT K) (pv 1) (pv 2) (fun _ _ => rfl)))) pa_nil)))), ?_⟩
    refine ⟨.ref a, rfl, a, rfl, ⟨_, SqT.of ha⟩, fun D hD => ?_⟩
    refine lc_map (wk_tup (SqT.of ha)) hD (by rw [tI_len]; omega) (fun i σ2 _ => ∃ x, (tI xs)[i]? = some x ∧ σ2 = [some (.ref a), some (.ref b), some x]) (fun i y _ => ∃ n : Nat, (mul xs ys)[i]? = some n ∧ y = V.int (n : Int))
      (fun _ _ _ _ _ _ h => h) (fun i x H' Q' hi sm hx k => k _ rfl ⟨x, hx, rfl⟩) ?_ ?_
    · rintro i σ2 H' hi sm ⟨x, hx, rfl⟩ Q' q'
      obtain ⟨n, hn, rfl⟩ := tI_get hx
      have hm : n ∈ xs := List.mem_of_getElem? hn
      have hn2 : ys[n]? = some (ys.getD n 0) := by
        rw [List.getD_eq_getElem?_getD, List.getElem?_eq_getElem (hlt n hm)]
        rfl
      exact ⟨.ref b, rfl, .int (n : Int), rfl, b, tI ys, (n : Int), .int ((ys.getD n 0 : Nat) : Int), rfl, rfl, SqT.of (sm _ _ hb), atI_nat (tI_at hn2), q' _ _ (Same.refl _) ⟨_, mul_get hn, rfl⟩⟩
    · rintro zs H' sm hd hl hr
      have e := eq_tI (ns := mul xs ys) (by rw [hl, tI_len, mul_len]) hr
      subst e
      refine ⟨D, _, rfl, .inl ⟨.inl (.inl hd), fun l hl => ?_⟩⟩
      exact q _ l (sm.free hl) (sm.upd' (sm.free hl)) upd_same
theorem ok_lexch (F0 : FnP K "_law_exchanged" s__law_exchanged f fd) (T : Bt mg) (F__law_product : Fo P w K mg base "_law_product" ["_law_one", "_law_other"] 1 sp_product) (F__law_undone : Fo P w K mg base "_law_undone" ["_law_one"] 1 sp_undone) : FnOk P w K mg base CX0 2 f fd ["_law_one", "_law_other"] sp_exchange := by
  refine F0.ok sc__law_exchanged (fun vs H Q E h => ?_) (fun cdv A outer s H vs Q E hr h => ?_)
  · obtain ⟨a, b, n, xs, ys, rfl, _⟩ := h
    rfl
  · obtain ⟨a, b, n, xs, ys, rfl, ha, hb, hx, hy, hn, q⟩ := h
    refine ⟨_, PSs.nox (pss_one (ps_ret (pc F__law_product hr (by rfl) (pa_cons (pc F__law_product hr (by rfl) (pa_cons (pv 0) (pa_cons (pv 1) pa_nil))) (pa_cons (pc F__law_product hr (by rfl) (pa_cons (pc F__law_undone hr (by rfl) (pa_cons (pv 0) pa_nil)) (pa_cons (pc F__law_undone hr (by rfl) (pa_cons (pv 1) pa_nil)) pa_nil))) pa_nil))))), ?_⟩
    refine ⟨_, rfl, _, rfl, a, b, xs, ys, rfl, ha, hb, fun z hz => by rw [hy.1]; exact hx.2.2 z hz, by rw [hx.1]; exact hn, fun H1 c1 n1 s1 hc1 => ?_⟩
    refine ⟨_, rfl, a, n, xs, rfl, s1 _ _ ha, hx, hn, fun H2 c2 n2 s2 hc2 => ?_⟩
    refine ⟨_, rfl, b, n, ys, rfl, s2 _ _ (s1 _ _ hb), hy, hn, fun H3 c3 n3 s3 hc3 => ?_⟩
    refine ⟨c2, c3, inv xs, inv ys, rfl, s3 _ _ hc2, hc3, fun z hz => by rw [hy.inv.1]; exact hx.inv.2.2 z hz, by rw [hx.inv.1]; exact hn, fun H4 c4 n4 s4 hc4 => ?_⟩
    refine ⟨c1, c4, mul xs ys, mul (inv xs) (inv ys), rfl, s4 _ _ (s3 _ _ (s2 _ _ hc1)), hc4, fun z hz => by rw [(hx.inv.mul hy.inv).1]; exact (hx.mul hy).2.2 z hz, by rw [(hx.mul hy).1]; exact hn, fun H5 c5 n5 s5 hc5 => ?_⟩
    have s := s1.trans (s2.trans (s3.trans s4))
    exact q H5 c5 (s.free n5) (s.trans s5) hc5
theorem ok_lalong (F0 : FnP K "_law_along" s__law_along f fd) (T : Bt mg) (F__law_product : Fo P w K mg base "_law_product" ["_law_one", "_law_other"] 1 sp_product) : FnOk P w K mg base CX0 2 f fd ["_law_makers", "_law_indexes"] sp_along := by
  refine F0.ok sc__law_along (fun vs H Q E h => ?_) (fun cdv A outer s H vs Q E hr h => ?_)
  · obtain ⟨b, a, vms, ms, n, u, rfl, _⟩ := h
    rfl
  · obtain ⟨b, a, vms, ms, n, u, rfl, hb, htm, hne, hP, hn, ha, hlt, hl, q⟩ := h
    refine ⟨_, PSs.nox (pss_cons (ps_set (i := 2) sc__law_along.nd rfl (Or.inl rfl) (pe_tupRg rfl (by rfl) T.tuple (prg_1 (by rfl) T.range (pe_callB (callLenSeq K) (by rfl) T.len PySem.boot_len (pa_cons (pe_ix (ixL K) (pv 0) pe_int (fun _ _ => rfl)) pa_nil)))))
  (pss_cons (ps_for PassesOwn.never rfl (piT K (pv 1)) (pg_name (i := 3) sc__law_along.nd rfl (Or.inl rfl))
  (pss_one (ps_set (i := 2) sc__law_along.nd rfl (Or.inl rfl) (pc F__law_product hr (by rfl) (pa_cons (pv 2) (pa_cons (pe_ix (ixL K) (pv 0) (pv 3) (fun _ _ => rfl)) pa_nil))))))
  (pss_one (ps_ret (pv 2))))), ?_⟩
    obtain ⟨m0, hm0⟩ : ∃ m0, ms[0]? = some m0 := ⟨_, List.getElem?_eq_getElem (List.length_pos_iff.mpr hne)⟩
    obtain ⟨v0, hv0⟩ : ∃ v0, vms[0]? = some v0 := ⟨_, List.getElem?_eq_getElem (by rw [htm.1]; exact List.length_pos_iff.mpr hne)⟩
    obtain ⟨r0, hr0, a0, rfl, ha0⟩ := htm.2 0 v0 hv0
    rw [hm0] at hr0
    cases hr0
    have hP0 := hP m0 (List.mem_of_getElem? hm0)
    refine ⟨_, rfl, b, vms, 0, .ref a0, rfl, rfl, SqL.of hb, atI_nat (j := 0) hv0, a0, tI m0, rfl, .inr (SqT.of ha0), (n : Int), by rw [tI_len, hP0.1], RgOk.of_le (by omega) (by omega) (by omega) (by omega), fun p n1 => ?_⟩
    rw [rg_still]
    have s1 : Same H (upd H p (.tup (tI (still n)))) := same_upd n1
    have hp : (upd H p (.tup (tI (still n)))) p = some (.tup (tI (still n))) := upd_same
    refine ⟨_, rfl, a, rfl, ⟨_, SqT.of (s1 _ _ ha)⟩, ?_⟩
    refine for_wk (wk_tup (K := K) (SqT.of ha)) (fun i σ H' => Same H H' ∧ ∃ p v3, σ = [some (.ref b), some (.ref a), some (.ref p), v3] ∧ H p = none ∧ H' p = some (.tup (tI (along ms n (u.take i))))) ⟨s1, p, none, rfl, n1, hp⟩ (fun i σ H h => h.1) ?_ ?_
    · rintro i x σ H3 H4 hi ⟨s3, p, v3, rfl, np, h3p⟩ s34 hx
      obtain ⟨x, hx', rfl⟩ := tI_get hx
      have hxl := hlt x (List.mem_of_getElem? hx')
      obtain ⟨vm, hvm⟩ : ∃ vm, vms[x]? = some vm := ⟨_, List.getElem?_eq_getElem (by rw [htm.1]; exact hxl)⟩
      obtain ⟨m, hm, am, rfl, ham⟩ := htm.2 x vm hvm
      have s4 := s3.trans s34
      have hPm := hP m (List.mem_of_getElem? hm)
      have hPa : IsP n (along ms n (u.take i)) := along_ind (C := IsP n) (isP_still n) (fun x m hx hm => hx.mul (hP m hm)) _ fun y hy => hlt y (List.mem_of_mem_take hy)
      refine ⟨_, rfl, _, rfl, _, rfl, b, vms, (x : Int), .ref am, rfl, rfl, SqL.of (s4 _ _ hb), atI_nat hvm, p, am, _, m, rfl, s34 _ _ h3p, s4 _ _ ham, fun y hy => by rw [hPm.1]; exact hPa.2.2 y hy, by rw [hPa.1]; omega, fun H5 p5 n5 s5 hp5 => ?_⟩
      refine ⟨s4.trans s5, p5, _, rfl, s4.free n5, ?_⟩
      rw [hp5]
      have htake : u.take (i + 1) = u.take i ++ [x] := by
        rw [List.take_succ, hx']
        rfl
      rw [htake, along_snoc]
      have : ms.getD x [] = m := by rw [List.getD_eq_getElem?_getD, hm]; rfl
      rw [this]
    · rintro σ H3 ⟨s3, p, v3, rfl, np, h3p⟩
      rw [List.take_of_length_le (by rw [tI_len]; exact Nat.le_refl _)] at h3p
      exact ⟨_, rfl, q _ p np s3 h3p⟩
end
end Kn
/-! H2 -/
set_option maxHeartbeats 1000000
namespace Kn
open PySem PySem.Spec PyProof.Rows L2
theorem sc__law_is_index : FnScope ["_law_value", "_law_many"] ["_law_value", "_law_many"] (defScope s__law_is_index) := ⟨rfl, rfl, rfl, by decide +kernel, rfl, by decide +kernel, by decide +kernel⟩
theorem sc__law_undone : FnScope ["_law_one", "_law_found", "_law_k"] ["_law_one"] (defScope s__law_undone) := ⟨rfl, rfl, rfl, by decide +kernel, rfl, by decide +kernel, by decide +kernel⟩
def sp_lindex : Sp := fun vs H Q _ => ∃ (v k : Nat), vs = [.int (v : Int), .int (k : Int)] ∧ v < k ∧ Q (.bl true) H
section
variable {P : Program} {w : World} {K : Fr} {mg : Str → Option Value} {base : Heap} {fd : FuncData} {f : Addr}
theorem ok_lindex (F0 : FnP K "_law_is_index" s__law_is_index f fd) (T : Bt mg) : FnOk P w K mg base CX0 1 f fd ["_law_value", "_law_many"] sp_lindex := by
  refine F0.ok sc__law_is_index (fun vs H Q E h => ?_) (fun cdv A outer s H vs Q E hr h => ?_)
  · obtain ⟨v, k, rfl, _⟩ := h
    rfl
  · obtain ⟨v, k, rfl, hlt, q⟩ := h
    refine ⟨_, PSs.nox (pss_one (ps_ret (pe_and (pe_callB (callIsi K) (by rfl) T.isinstance (by decide +kernel) (pa_cons (pv 0) (pa_cons (pe_bltn (v := .ty "int") (by rfl) T.int (by decide +kernel) rfl) pa_nil))) (pe_and (pe_not (pe_callB (callIsi K) (by rfl) T.isinstance (by decide +kernel) (pa_cons (pv 0) (pa_cons (pe_bltn (v := .ty "bool") (by rfl) T.bool (by decide +kernel) rfl) pa_nil)))) (pe_and (pe_cmpR op_le pe_int (pv 0) (nomark _)) (pe_one (pe_cmpR op_lt (pv 0) (pv 1) (nomark _)))))))), ?_⟩
    refine ⟨_, rfl, _, _, _, _, _, rfl, .ty _, tyI, kit_ty k_ii, true, rfl, iteT ?_⟩
    refine ⟨_, rfl, _, _, _, _, _, rfl, .ty _, tyI, kit_ty k_ib, ?_⟩
    refine ⟨_, rfl, _, rfl, iteT ?_⟩
    refine ⟨_, rfl, _, _, rfl, rfl, _, rfl, ?_⟩
    rw [decide_eq_true (by omega : (0 : Int) ≤ (v : Int))]
    refine iteT ?_
    refine ⟨_, rfl, _, rfl, _, _, rfl, rfl, ?_⟩
    show Q (V.bl (decide ((v : Int) < (k : Int)))) H
    rw [decide_eq_true (by omega : (v : Int) < (k : Int))]
    exact q
theorem ok_lundone (F0 : FnP K "_law_undone" s__law_undone f fd) (T : Bt mg) : FnOk P w K mg base CX0 1 f fd ["_law_one"] sp_undone := by
  refine F0.ok sc__law_undone (fun vs H Q E h => ?_) (fun cdv A outer s H vs Q E hr h => ?_)
  · obtain ⟨a, n, xs, rfl, _⟩ := h
    rfl
  · obtain ⟨a, n, xs, rfl, ha, hP, hn, q⟩ := h
    refine ⟨_, PSs.nox (pss_cons (ps_set (i := 1) sc__law_undone.nd rfl (Or.inl rfl) (pe_op op_rep (pe_lst (pa_cons pe_int pa_nil)) (pe_callB (callLenSeq K) (by rfl) T.len PySem.boot_len (pa_cons (pv 0) pa_nil))))
  (pss_cons (ps_for PassesOwn.never rfl (pi_range1 (by rfl) T.range (pa_cons (pe_callB (callLenSeq K) (by rfl) T.len PySem.boot_len (pa_cons (pv 0) pa_nil)) pa_nil)) (pg_name (i := 2) sc__law_undone.nd rfl (Or.inl rfl))
  (pss_one (ps_asg (pv 2) (pg_sub (pv 1) (pe_ix (ixT K) (pv 0) (pv 2) (fun _ _ => rfl)) set_list))))
  (pss_one (ps_ret (pe_callTy (callTupOf K) (by rfl) T.tuple (by decide +kernel) (pa_cons (pv 1) pa_nil)))))), ?_⟩
    -- found = [0] * len(turn)
    refine ⟨szl (by show 1 ≤ 1000000; decide), fun l hl => ?_⟩
    have s1 : Same H (upd H l (.lst [V.int 0])) := same_upd hl
    refine ⟨.ref a, rfl, a, tI xs, rfl, .inr (SqT.of (s1 _ _ ha)), l, ((tI xs).length : Int), [V.int 0], rfl, rfl, upd_same, by omega, by rw [tI_len, hP.1]; omega, by rw [tI_len, hP.1]; exact szl (by show 1 * (n : Int).toNat ≤ 1000000; omega), fun p hp => ?_⟩
    have hpH : H p = none := s1.free hp
    have e0 : (List.replicate ((tI xs).length : Int).toNat [V.int 0]).flatten = tI (List.replicate n 0) := by
      rw [tI_len, hP.1, show ((n : Int)).toNat = n by omega]
      clear hr hl hp hpH s1 q hn hP ha
      induction n with
      | zero => rfl
      | succ k ih =>
        rw [List.replicate_succ, List.flatten_cons, ih, List.replicate_succ, tI_cons]
        rfl
    rw [e0]
    have s2 : Same H (upd (upd H l (.lst [V.int 0])) p (.lst (tI (List.replicate n 0)))) := s1.trans (same_upd hp)
    refine ⟨.ref a, rfl, a, tI xs, rfl, .inr (SqT.of (s2 _ _ ha)), ((tI xs).length : Int), rfl, by omega, by rw [tI_len, hP.1]; omega, ?_⟩
    refine for_wk (wk_rng (H0 := H)) (fun i σ H' => Same H H' ∧ (∃ v1, σ = [some (.ref a), some (.ref p), v1]) ∧ ∃ ys : List Nat, ys.length = n ∧ (∀ j g, j < i → xs[j]? = some g → ys[g]? = some j) ∧ H' p = some (.lst (tI ys)))
      ⟨s2, ⟨_, rfl⟩, List.replicate n 0, List.length_replicate, fun j g hj => absurd hj (Nat.not_lt_zero _), upd_same⟩ (fun i σ H' h => h.1) ?_ ?_
    · rintro i x σ H1 H2 hi ⟨sm, ⟨v1, rfl⟩, ys, hl1, hys, hpy⟩ s12 rfl
      have hin : i < xs.length := by rw [tI_len] at hi; omega
      obtain ⟨g, hg⟩ : ∃ g, xs[i]? = some g := ⟨_, List.getElem?_eq_getElem hin⟩
      rw [show (0 : Int) + (i : Int) = (i : Int) by omega]
      have hgn : g < n := hP.2.2 g (List.mem_of_getElem? hg)
      refine ⟨_, rfl, _, rfl, _, rfl, _, rfl, a, tI xs, (i : Int), .int (g : Int), rfl, rfl, SqT.of ((sm.trans s12) _ _ ha), atI_nat (tI_at hg), p, tI ys, (g : Int), g, rfl, rfl, s12 _ _ hpy, ?_, ?_⟩
      · unfold ixN
        rw [if_pos (by omega), if_pos (by rw [tI_len, hl1]; omega)]
        simp
      · refine ⟨(sm.trans s12).upd' hpH, ⟨_, rfl⟩, ys.set g i, by rw [List.length_set]; exact hl1, fun j g' hj hg' => ?_, ?_⟩
        · by_cases e : g' = g
          · subst e
            rw [nodup_get_inj hP.2.1 hg' hg]
            rw [List.getElem?_set_self (by omega)]
          · rw [List.getElem?_set_ne (fun z => e z.symm)]
            refine hys j g' ?_ hg'
            have : j ≠ i := fun z => by
              subst z
              rw [hg] at hg'
              exact e (Option.some.inj hg').symm
            omega
        · rw [upd_same]
          unfold tI
          rw [List.map_set]
    · rintro σ H1 ⟨sm, ⟨v1, rfl⟩, ys, hl1, hys, hpy⟩
      have e : ys = inv xs := by
        refine ext_get fun g => ?_
        by_cases hg : g < n
        · have e1 := idx_get (hP.mem hg)
          have e2 : xs.idxOf g < ((tI xs).length : Int).toNat := by rw [tI_len]; show _ < xs.length; exact (List.getElem?_eq_some_iff.mp e1).1
          rw [hys _ g e2 e1]
          unfold inv
          rw [List.getElem?_map, range_get (by rw [hP.1]; exact hg)]
          rfl
        · rw [List.getElem?_eq_none (by omega), List.getElem?_eq_none (by rw [inv_len, hP.1]; omega)]
      subst e
      refine ⟨_, rfl, p, _, rfl, .inl ⟨SqL.of hpy, fun t ht => ?_⟩⟩
      exact q _ t (sm.free ht) (sm.upd' (sm.free ht)) upd_same
end
end Kn
/-! H3 -/
set_option maxHeartbeats 1000000
namespace Kn
open PySem PySem.Spec PyProof.Rows L2
theorem sc__law_product_told : FnScope ["_law_makers", "_law_pairs", "_law_found", "_law_pair", "_law_row", "_law_one"] ["_law_makers", "_law_pairs"] (defScope s__law_product_told) := ⟨rfl, rfl, rfl, by decide +kernel, rfl, by decide +kernel, by decide +kernel⟩
section
variable {P : Program} {w : World} {K : Fr} {mg : Str → Option Value} {base : Heap} {fd : FuncData} {f : Addr}
theorem ok_ltold (F0 : FnP K "_law_product_told" s__law_product_told f fd) (T : Bt mg) (F__law_product : Fo P w K mg base "_law_product" ["_law_one", "_law_other"] 1 sp_product) (F__law_exchanged : Fo P w K mg base "_law_exchanged" ["_law_one", "_law_other"] 2 sp_exchange) (F__law_along : Fo P w K mg base "_law_along" ["_law_makers", "_law_indexes"] 2 sp_along) (F__law_is_index : Fo P w K mg base "_law_is_index" ["_law_value", "_law_many"] 1 sp_lindex) : FnOk P w K mg base CX0 3 f fd ["_law_makers", "_law_pairs"] sp_prodof := by
  refine F0.ok sc__law_product_told (fun vs H Q E h => ?_) (fun cdv A outer s H vs Q E hr h => ?_)
  · obtain ⟨b, v, vms, ms, n, prs, rfl, _⟩ := h
    rfl
  · obtain ⟨b, v, vms, ms, n, prs, rfl, hb, htm, hne, hP, hn, ⟨hpl, a, us, rfl, ha, hul, hu⟩, hok, q⟩ := h
    refine ⟨_, PSs.nox (pss_cons (ps_if (pt_not (pt_val (pe_callB (callIsi K) (by rfl) T.isinstance (by decide +kernel) (pa_cons (pv 1) (pa_cons (pe_bltn (v := .ty "tuple") (by rfl) T.tuple (by decide +kernel) rfl) pa_nil))))) (pss_one (ps_ret pe_non)) pss_nil)
  (pss_cons (ps_set (i := 2) sc__law_product_told.nd rfl (Or.inl rfl) (pe_tupRg rfl (by rfl) T.tuple (prg_1 (by rfl) T.range (pe_callB (callLenSeq K) (by rfl) T.len PySem.boot_len (pa_cons (pe_ix (ixL K) (pv 0) pe_int (fun _ _ => rfl)) pa_nil)))))
  (pss_cons (ps_for PassesOwn.never rfl (piT K (pv 1)) (pg_name (i := 3) sc__law_product_told.nd rfl (Or.inl rfl))
  (pss_cons (ps_if (PW.pt (pw_or (pt_not (pt_val (pe_callB (callIsi K) (by rfl) T.isinstance (by decide +kernel) (pa_cons (pv 3) (pa_cons (pe_bltn (v := .ty "tuple") (by rfl) T.tuple (by decide +kernel) rfl) pa_nil))))) (pw_or1 (pt_cmpR op_ne (pe_callB (callLenSeq K) (by rfl) T.len PySem.boot_len (pa_cons (pv 3) pa_nil)) pe_int (nomark _))))) (pss_one (ps_ret pe_non)) pss_nil)
  (pss_cons (ps_for PassesOwn.never rfl (piT K (pv 3)) (pg_name (i := 4) sc__law_product_told.nd rfl (Or.inl rfl))
  (pss_one (ps_if (PW.pt (pw_or (pt_not (pt_val (pe_callB (callIsi K) (by rfl) T.isinstance (by decide +kernel) (pa_cons (pv 4) (pa_cons (pe_bltn (v := .ty "tuple") (by rfl) T.tuple (by decide +kernel) rfl) pa_nil))))) (pw_or1 (pt_not (pt_val (pe_callB (crAll K) (by rfl) T.all (by decide +kernel) (pa_cons (pe_lc (own := [("_law_one", 5)]) (g := gName 5) (tt := tYes) rfl sc__law_product_told.nd (piT K (pv 4))
  (blkOk_by (N := ["_law_makers", "_law_pairs", "_law_found", "_law_pair", "_law_row", "_law_one"]) (sc := defScope s__law_product_told) (by decide +kernel)) (fun _ _ _ _ _ => pg_name (i := 5) sc__law_product_told.nd rfl (Or.inl rfl)) (fun _ _ _ _ _ => pts_nil) (fun _ _ _ _ _ => (pc F__law_is_index hr (by rfl) (pa_cons (pv 5) (pa_cons (pe_callB (callLenSeq K) (by rfl) T.len PySem.boot_len (pa_cons (pv 0) pa_nil)) pa_nil))))) pa_nil))))))) (pss_one (ps_ret pe_non)) pss_nil)))
  (pss_one (ps_set (i := 2) sc__law_product_told.nd rfl (Or.inl rfl) (pc F__law_product hr (by rfl) (pa_cons (pv 2) (pa_cons (pc F__law_exchanged hr (by rfl) (pa_cons (pc F__law_along hr (by rfl) (pa_cons (pv 0) (pa_cons (pe_ix (ixT K) (pv 3) pe_int (fun _ _ => rfl)) pa_nil))) (pa_cons (pc F__law_along hr (by rfl) (pa_cons (pv 0) (pa_cons (pe_ix (ixT K) (pv 3) pe_int (fun _ _ => rfl)) pa_nil))) pa_nil))) pa_nil))))))))
  (pss_one (ps_ret (pv 2)))))), ?_⟩
    obtain ⟨m0, hm0⟩ : ∃ m0, ms[0]? = some m0 := ⟨_, List.getElem?_eq_getElem (List.length_pos_iff.mpr hne)⟩
    obtain ⟨v0, hv0⟩ : ∃ v0, vms[0]? = some v0 := ⟨_, List.getElem?_eq_getElem (by rw [htm.1]; exact List.length_pos_iff.mpr hne)⟩
    obtain ⟨r0, hr0, a0, rfl, ha0⟩ := htm.2 0 v0 hv0
    rw [hm0] at hr0
    cases hr0
    have hP0 := hP m0 (List.mem_of_getElem? hm0)
    refine ⟨_, rfl, _, _, _, _, _, rfl, .ty _, tyT ha, kit_ty k_tt, true, rfl, iteF ?_⟩
    refine ⟨_, rfl, b, vms, 0, .ref a0, rfl, rfl, SqL.of hb, atI_nat (j := 0) hv0, a0, tI m0, rfl, .inr (SqT.of ha0), (n : Int), by rw [tI_len, hP0.1], RgOk.of_le (by omega) (by omega) (by omega) (by omega), fun p n1 => ?_⟩
    rw [rg_still]
    have s1 : Same H (upd H p (.tup (tI (still n)))) := same_upd n1
    have hp : (upd H p (.tup (tI (still n)))) p = some (.tup (tI (still n))) := upd_same
    refine ⟨_, rfl, a, rfl, ⟨_, SqT.of (s1 _ _ ha)⟩, ?_⟩
    refine for_wk (wk_tup (K := K) (SqT.of ha)) (fun i σ H' => Same H H' ∧ ∃ p v3 v4, σ = [some (.ref b), some (.ref a), some (.ref p), v3, v4, none] ∧ H p = none ∧ H' p = some (.tup (tI (prodK ms n (prs.take i))))) ⟨s1, p, none, none, rfl, n1, hp⟩ (fun i σ H h => h.1) ?_ ?_
    · rintro i x σ H3 H4 hi ⟨s3, p, v3, v4, rfl, np, h3p⟩ s34 hx
      obtain ⟨pr, hpr, hPa2, T2, us2, rfl, hT2, hul2, hu2⟩ := hu i x hx
      have hokp := hok pr (List.mem_of_getElem? hpr)
      obtain ⟨u1, u2, rfl⟩ : ∃ u1 u2, pr = [u1, u2] := by
        match pr, hokp.1 with
        | [u1, u2], _ => exact ⟨u1, u2, rfl⟩
      obtain ⟨w1, w2, rfl⟩ : ∃ w1 w2, us2 = [w1, w2] := by
        match us2, hul2 with
        | [w1, w2], _ => exact ⟨w1, w2, rfl⟩
      obtain ⟨_, e1, l1, t1⟩ := hu2 0 w1 rfl
      cases e1
      obtain ⟨_, e2, l2, t2⟩ := hu2 1 w2 rfl
      cases e2
      obtain ⟨b1, rfl, hb1⟩ := tup_of.mp t1
      obtain ⟨b2, rfl, hb2⟩ := tup_of.mp t2
      have s4 := s3.trans s34
      have hT4 := s4 _ _ hT2
      have hb14 := s4 _ _ hb1
      have hb24 := s4 _ _ hb2
      have hb4 := s4 _ _ hb
      have ho1 : ∀ x ∈ u1, x < ms.length := hokp.2 u1 List.mem_cons_self
      have ho2 : ∀ x ∈ u2, x < ms.length := hokp.2 u2 (List.mem_cons_of_mem _ List.mem_cons_self)
      refine ⟨_, rfl, _, _, _, _, _, rfl, .ty _, tyT hT4, kit_ty k_tt, true, rfl, iteF ?_⟩
      refine ⟨_, rfl, T2, _, rfl, .inr (SqT.of hT4), rfl, _, rfl, ?_⟩
      have e2 : decide (V.int (([V.ref b1, V.ref b2] : List V).length : Int) = V.int 2) = true := decide_eq_true rfl
      rw [e2]
      refine iteF ?_
      refine ⟨_, rfl, T2, rfl, ⟨_, SqT.of hT4⟩, ?_⟩
      refine for_wk (wk_tup (K := K) (SqT.of hT4)) (fun i σ H' => Same H4 H' ∧ ∃ v4, σ = [some (.ref b), some (.ref a), some (.ref p), some (.ref T2), v4, none]) ⟨Same.refl _, _, rfl⟩ (fun i σ H h => h.1) ?_ ?_
      · rintro j y σ H5 H6 hj ⟨s5, v5, rfl⟩ s56 hy
        obtain ⟨bu, u, rfl, hbu0, hult, hull⟩ : ∃ bu u, y = .ref bu ∧ H4 bu = some (.tup (tI u)) ∧ (∀ x ∈ u, x < ms.length) ∧ u.length ≤ 50000 := by
          match j, hy with
          | 0, hy => cases hy; exact ⟨b1, u1, rfl, hb14, ho1, l1⟩
          | 1, hy => cases hy; exact ⟨b2, u2, rfl, hb24, ho2, l2⟩
        have s46 := s5.trans s56
        have hbu := s46 _ _ hbu0
        refine ⟨_, rfl, _, _, _, _, _, rfl, .ty _, tyT hbu, kit_ty k_tt, true, rfl, iteF ?_⟩
        refine ⟨_, rfl, bu, rfl, ⟨_, SqT.of hbu⟩, fun D hD => ?_⟩
        refine lc_bools (fun _ => true) (wk_tup (SqT.of hbu)) hD (by rw [tI_len]; omega) (fun i σ2 H' => ∃ x : Nat, x < ms.length ∧ Same H6 H' ∧ σ2 = [some (.ref b), some (.ref a), some (.ref p), some (.ref T2), some (.ref bu), some (.int (x : Int))]) (fun i x H' Q' hi sm hx kk => ?_) ?_ ?_
        · obtain ⟨z, hz, rfl⟩ := tI_get hx
          exact kk _ rfl ⟨z, hult z (List.mem_of_getElem? hz), sm, rfl⟩
        · rintro i σ2 H' hi sm ⟨z, hz, _, rfl⟩ Q' q'
          exact ⟨_, rfl, _, rfl, b, _, rfl, .inl (SqL.of (sm _ _ (s46 _ _ hb4))), z, ms.length, by rw [htm.1]; rfl, hz, q' _ _ (Same.refl _) rfl⟩
        · intro H7 s7 hl7
          refine ⟨D, _, rfl, SqL.of hl7, ?_⟩
          rw [all_true]
          exact ⟨true, rfl, iteF ⟨s46.trans s7, _, rfl⟩⟩
      · rintro σ H5 ⟨s5, v5, rfl⟩
        have s05 := s4.trans s5
        refine ⟨_, rfl, _, rfl, _, rfl, T2, _, 0, .ref b1, rfl, rfl, SqT.of (s5 _ _ hT4), atI_nat (j := 0) rfl, b, b1, vms, ms, n, u1, rfl, s5 _ _ hb4, htm.same s05, hne, hP, hn, s5 _ _ hb14, ho1, l1, fun H6 c6 n6 s6 hc6 => ?_⟩
        have s56 := s5.trans s6
        refine ⟨_, rfl, _, rfl, T2, _, 1, .ref b2, rfl, rfl, SqT.of (s56 _ _ hT4), atI_nat (j := 1) rfl, b, b2, vms, ms, n, u2, rfl, s56 _ _ hb4, htm.same (s4.trans s56), hne, hP, hn, s56 _ _ hb24, ho2, l2, fun H7 c7 n7 s7 hc7 => ?_⟩
        have s57 := s56.trans s7
        refine ⟨c6, c7, n, _, _, rfl, s7 _ _ hc6, hc7, along_isP hP ho1, along_isP hP ho2, by omega, fun H8 c8 n8 s8 hc8 => ?_⟩
        have s58 := s57.trans s8
        have hPk := prodK_isP hP (prs.take i) fun p' hp' => hok p' (List.mem_of_mem_take hp')
        have hPe := exP_isP hP hokp
        refine ⟨p, c8, _, _, rfl, s58 _ _ (s34 _ _ h3p), hc8, fun y hy => by
          have e : (exch (along ms n u1) (along ms n u2)).length = n := hPe.1
          rw [e]
          exact hPk.2.2 y hy, by rw [hPk.1]; omega, fun H9 c9 n9 s9 hc9 => ?_⟩
        refine ⟨(s4.trans s58).trans s9, c9, _, _, rfl, (s4.trans s58).free n9, ?_⟩
        rw [hc9, List.take_succ, hpr]
        show _ = some (HO.tup (tI (prodK ms n (prs.take i ++ [[u1, u2]]))))
        rw [prodK_snoc]
        rfl
    · rintro σ H3 ⟨s3, p, v3, v4, rfl, np, h3p⟩
      rw [List.take_of_length_le (by rw [hul]; exact Nat.le_refl _)] at h3p
      exact ⟨_, rfl, q _ p np s3 h3p⟩
end
end Kn
/-! H4 -/
set_option maxHeartbeats 1000000
namespace Kn
open PySem PySem.Spec PyProof.Rows L2
theorem sc__law_go : FnScope ["_law_goals", "_law_signs", "_law_at", "_law_text", "_law_sign"] ["_law_goals", "_law_signs", "_law_at", "_law_text"] (defScope s__law_go) := ⟨rfl, rfl, rfl, by decide +kernel, rfl, by decide +kernel, by decide +kernel⟩
theorem sc__law_is_over : FnScope ["_law_signs", "_law_value", "_law_sign"] ["_law_signs", "_law_value"] (defScope s__law_is_over) := ⟨rfl, rfl, rfl, by decide +kernel, rfl, by decide +kernel, by decide +kernel⟩
theorem sc__law_places : FnScope ["_law_states", "_law_rows", "_law_row", "_law_one"] ["_law_states", "_law_rows"] (defScope s__law_places) := ⟨rfl, rfl, rfl, by decide +kernel, rfl, by decide +kernel, by decide +kernel⟩
def sp_lgo : Sp := fun vs H Q _ => ∃ (b : Addr) (vrs : List V) (M : Mc) (s : Nat) (wd : List Nat), vs = [.ref b, .str (al M), .int (s : Int), .str (txt wd)] ∧ M.Ok ∧ H b = some (.lst vrs) ∧ TL H vrs M.rows ∧ s < M.rows.length ∧ (∀ i ∈ wd, i < M.k) ∧ wd.length ≤ 1000000 ∧ ∀ H', Same H H' → Q (.int (M.run s wd : Nat)) H'
section
variable {P : Program} {w : World} {K : Fr} {mg : Str → Option Value} {base : Heap} {fd : FuncData} {f : Addr}
theorem ok_lgo (F0 : FnP K "_law_go" s__law_go f fd) (T : Bt mg) : FnOk P w K mg base CX0 1 f fd ["_law_goals", "_law_signs", "_law_at", "_law_text"] sp_lgo := by
  refine F0.ok sc__law_go (fun vs H Q E h => ?_) (fun cdv A outer s H vs Q E hr h => ?_)
  · obtain ⟨b, vrs, M, s, wd, rfl, _⟩ := h
    rfl
  · obtain ⟨b, vrs, M, st, wd, rfl, ok, h2, h3, hs, hwd, hlen, q⟩ := h
    refine ⟨_, PSs.nox (pss_cons (ps_for PassesOwn.never rfl (pi_str (pv 3)) (pg_name (i := 4) sc__law_go.nd rfl (Or.inl rfl))
  (pss_one (ps_set (i := 2) sc__law_go.nd rfl (Or.inl rfl) (pe_ix (ixT K) (pe_ix (ixL K) (pv 0) (pv 2) (fun _ _ => rfl)) (pe_bm PySem.F.plainAttrs_str PySem.F.slot_str_index PySem.F.type_str_index mt_sindex (pv 1) (pa_cons (pv 4) pa_nil)) (fun _ _ => rfl)))))
  (pss_one (ps_ret (pv 2)))), ?_⟩
    refine ⟨_, rfl, txt wd, rfl, ?_⟩
    have hz : (txt wd).cps.size = wd.length := txt_len wd
    have W := wk_str (H0 := H) (z := txt wd)
    rw [hz] at W
    refine for_wk W (fun i σ H' => Same H H' ∧ ∃ v3, σ = [some (.ref b), some (.str (al M)), some (.int (M.run st (wd.take i) : Nat)), some (.str (txt wd)), v3]) ⟨Same.refl _, none, by simp [Mc.run]; rfl⟩ (fun i σ H h => h.1) ?_ ?_
    · rintro i x σ H2 H3 hi ⟨s2, v3, rfl⟩ s23 ⟨c, hc, rfl⟩
      obtain ⟨rfl, _, hw⟩ := txt_cps hc
      have s3 := s2.trans s23
      have hik : wd.getD i 0 < M.k := hwd _ (List.mem_of_getElem? hw)
      have hlt : M.run st (wd.take i) < M.rows.length := ok.runlt hs fun j hj => hwd j (List.mem_of_mem_take hj)
      obtain ⟨rv, hrv, ar, rfl, har⟩ := h3.at (ok.get hlt)
      obtain ⟨rest, hocc⟩ := alpha_idx ok.k3 hik
      refine ⟨_, rfl, _, rfl, b, vrs, (M.run st (wd.take i) : Nat), .ref ar, rfl, rfl, SqL.of (s3 _ _ h2), atI_nat hrv, _, rfl, rfl, _, rfl, _, _, _, _, rfl, rfl, hocc, ar, _, ((wd.getD i 0 : Nat) : Int), .int (M.stp (M.run st (wd.take i)) (wd.getD i 0) : Nat), rfl, rfl, SqT.of (s3 _ _ har), atI_nat (tI_at (ok.rowAt hlt hik)), s3, some (.str (txt [wd.getD i 0])), ?_⟩
      have e : wd.take (i + 1) = wd.take i ++ [wd.getD i 0] := by rw [List.take_succ, hw]; rfl
      rw [e, Mc.run_snoc]
      rfl
    · rintro σ H2 ⟨s2, v3, rfl⟩
      rw [List.take_length]
      exact ⟨_, rfl, q _ s2⟩
theorem ok_lover (F0 : FnP K "_law_is_over" s__law_is_over f fd) (T : Bt mg) : FnOk P w K mg base CX0 1 f fd ["_law_signs", "_law_value"] sp_isw := by
  refine F0.ok sc__law_is_over (fun vs H Q E h => ?_) (fun cdv A outer s H vs Q E hr h => ?_)
  · obtain ⟨k, w, rfl, _⟩ := h
    rfl
  · obtain ⟨k, w, rfl, h1, h4, hl, q⟩ := h
    refine ⟨_, PSs.nox (pss_one (ps_ret (pe_and (pe_callB (callIsi K) (by rfl) T.isinstance (by decide +kernel) (pa_cons (pv 1) (pa_cons (pe_bltn (v := .ty "str") (by rfl) T.str (by decide +kernel) rfl) pa_nil))) (pe_one (pe_callB (crAll K) (by rfl) T.all (by decide +kernel) (pa_cons (pe_lc (own := [("_law_sign", 2)]) (g := gName 2) (tt := tYes) rfl sc__law_is_over.nd (pi_str (pv 1))
  (blkOk_by (N := ["_law_signs", "_law_value", "_law_sign"]) (sc := defScope s__law_is_over) (by decide +kernel)) (fun _ _ _ _ _ => pg_name (i := 2) sc__law_is_over.nd rfl (Or.inl rfl)) (fun _ _ _ _ _ => pts_nil) (fun _ _ _ _ _ => (pe_cmpR op_in_sign (pv 2) (pv 0) (by rfl)))) pa_nil)))))), ?_⟩
    refine ⟨_, rfl, _, _, _, _, _, rfl, .ty _, tyS, kit_ty k_ss, true, rfl, iteT ?_⟩
    refine ⟨_, rfl, _, rfl, ?_⟩
    intro D hD
    refine lc_signs (a := List.range k) (fun i hi => List.mem_range.mpr (h4 i hi)) hl hD (fun x σ2 => σ2 = [some (.str (txt (List.range k))), some (.str (txt w)), some (.str (txt [x]))]) (fun x H' Q' hx k => k _ rfl rfl) ?_ ?_
    · rintro x σ2 H' rfl Q' q'
      exact ⟨_, rfl, _, rfl, x + 97, _, rfl, rfl, q' _ _ (Same.refl _) rfl⟩
    · intro H' sm hl
      refine ⟨D, _, rfl, SqL.of hl, ?_⟩
      rw [all_true]
      exact q _ sm
def sp_lplaces : Sp := fun vs H Q _ => ∃ (v : V) (b : Addr) (ss : List Nat) (vrs : List V) (rows : List (List Nat)), vs = [v, .ref b] ∧ TupF H v ss ∧ H b = some (.lst vrs) ∧ TL H vrs rows ∧ rows.length ≤ 50000 ∧ (∀ r ∈ rows, r.length ≤ 1000 ∧ ∀ s ∈ r, s ∈ ss) ∧
  ∀ H' p vms, H p = none → Same H H' → H' p = some (.lst vms) → TL H' vms (rows.map fun r => r.map fun s => ss.idxOf s) → Q (.ref p) H'
theorem ok_lplaces (F0 : FnP K "_law_places" s__law_places f fd) (T : Bt mg) : FnOk P w K mg base CX0 1 f fd ["_law_states", "_law_rows"] sp_lplaces := by
  refine F0.ok sc__law_places (fun vs H Q E h => ?_) (fun cdv A outer s H vs Q E hr h => ?_)
  · obtain ⟨v, b, ss, vrs, rows, rfl, _⟩ := h
    rfl
  · obtain ⟨v, b, ss, vrs, rows, rfl, ⟨a, o, rfl, ha, hdn⟩, hb, htl, hl, hr', q⟩ := h
    refine ⟨_, PSs.nox (pss_one (ps_ret (pe_lc (own := [("_law_row", 2)]) (g := gName 2) (tt := tYes) rfl sc__law_places.nd (piL K (pv 1))
  (blkOk_by (N := ["_law_states", "_law_rows", "_law_row", "_law_one"]) (sc := defScope s__law_places) (by decide +kernel)) (fun _ _ _ _ _ => pg_name (i := 2) sc__law_places.nd rfl (Or.inl rfl)) (fun _ _ _ _ _ => pts_nil) (fun _ _ _ _ _ => (pe_callTy (callTupOf K) (by rfl) T.tuple (by decide +kernel) (pa_cons (pe_lc (own := [("_law_one", 3)]) (g := gName 3) (tt := tYes) rfl sc__law_places.nd (piT K (pv 2))
  (blkOk_by (N := ["_law_states", "_law_rows", "_law_row", "_law_one"]) (sc := ({ kind := .function, names := [(".0", .local), ("_law_row", .local), ("tuple", .globalImplicit), ("_law_states", .cell)], isGenerator := false, isCoroutine := false } : Scope)) (by decide +kernel)) (fun _ _ _ _ _ => pg_name (i := 3) sc__law_places.nd rfl (by first | exact Or.inl rfl | exact Or.inr rfl)) (fun _ _ _ _ _ => pts_nil) (fun _ _ _ _ _ => (pe_bmF PySem.F.plainAttrs_tuple PySem.F.slot_tuple_index PySem.F.type_tuple_index (mt_tup_indexI K) (pv 0) (pa_cons (pv 3) pa_nil)))) pa_nil)))))), ?_⟩
    refine ⟨_, rfl, b, rfl, ⟨_, SqL.of hb⟩, fun D hD => ?_⟩
    refine lc_map (wk_lst (K := K) (SqL.of hb)) hD (by rw [htl.1]; omega) (fun i σ2 H' => ∃ ar r, rows[i]? = some r ∧ H' ar = some (.tup (tI r)) ∧ σ2 = [some (.ref a), some (.ref b), some (.ref ar), none]) (fun i y H' => ∃ r, rows[i]? = some r ∧ Tup H' y (r.map fun s => ss.idxOf s)) ?_ ?_ ?_ ?_
    · rintro i y Ha Hb _ t ⟨r, h1, h2⟩
      exact ⟨r, h1, h2.tame t⟩
    · rintro i y H' Q' hi sm hy kk
      obtain ⟨r, h1, ar, rfl, har⟩ := htl.2 i y hy
      exact kk _ rfl ⟨ar, r, h1, sm _ _ har, rfl⟩
    · rintro i σ2 H1 hi s1 ⟨ar, r, h1, har, rfl⟩ Q' q'
      obtain ⟨hrl, hrs⟩ := hr' r (List.mem_of_getElem? h1)
      refine ⟨_, rfl, ar, rfl, ⟨_, SqT.of har⟩, fun D2 nD2 => ?_⟩
      refine lc_vals (fun i => V.int ((ss.idxOf (r.getD i 0) : Nat) : Int)) (wk_tup (SqT.of har)) nD2 (by rw [tI_len]; omega) (fun i σ3 _ => ∃ x : Nat, r[i]? = some x ∧ σ3 = [some (.ref a), some (.ref b), some (.ref ar), some (.int (x : Int))]) (fun i x H' Q' hi sm hx kk => ?_) ?_ ?_
      · obtain ⟨y, hy, rfl⟩ := tI_get hx
        exact kk _ rfl ⟨y, hy, rfl⟩
      · rintro i σ3 H' hi sm ⟨x, hx, rfl⟩ Q2 q2
        refine ⟨_, rfl, ⟨a, o, _, rfl, sm _ _ (s1 _ _ ha), hdn⟩, _, rfl, a, ss, x, rfl, rfl, .inl (.inr ⟨o, sm _ _ (s1 _ _ ha)⟩), hrs x (List.mem_of_getElem? hx), q2 _ _ (Same.refl _) ?_⟩
        rw [getD_of hx]
      · intro H2 s2 hl2
        rw [tI_len, vals_of (fun s => ss.idxOf s)] at hl2
        exact ⟨D2, _, rfl, .inl ⟨SqL.of hl2, fun p np => q' _ _ (s2.trans (same_upd np)) ⟨r, h1, p, rfl, upd_same⟩⟩⟩
    · intro vms H1 s1 hD1 hvl hvr
      refine q H1 D vms hD s1 hD1 ⟨by rw [hvl, htl.1, List.length_map], fun i y e => ?_⟩
      obtain ⟨r, h1, h2⟩ := hvr i y e
      exact ⟨_, by rw [List.getElem?_map, h1]; rfl, h2⟩
end
end Kn
/-! H5 -/
set_option maxHeartbeats 1000000
namespace Kn
open PySem PySem.Spec PyProof.Rows L2
theorem sc__law_reach : FnScope ["_law_goals", "_law_signs", "_law_at", "_law_found", "_law_done", "_law_here", "_law_text", "_law_k", "_law_one", "_law_late"] ["_law_goals", "_law_signs", "_law_at"] (defScope s__law_reach) := ⟨rfl, rfl, rfl, by decide +kernel, rfl, by decide +kernel, by decide +kernel⟩
/-- pairs of a state and a word, one by one -/
def PL (H : Hp) (vs : List V) (l : List (Nat × List Nat)) : Prop := vs.length = l.length ∧ ∀ (i : Nat) (v : V), vs[i]? = some v → ∃ p a, l[i]? = some p ∧ v = .ref a ∧ H a = some (.tup [.int ((p.1 : Nat) : Int), .str (txt p.2)])
theorem PL.tame {H H' : Hp} {vs : List V} {l : List (Nat × List Nat)} (t : Tame H H') (h : PL H vs l) : PL H' vs l := ⟨h.1, fun i v e => by
  obtain ⟨p, a, h1, h2, h3⟩ := h.2 i v e
  exact ⟨p, a, h1, h2, t.1 _ _ h3⟩⟩
theorem PL.same {H H' : Hp} {vs : List V} {l : List (Nat × List Nat)} (t : Same H H') (h : PL H vs l) : PL H' vs l := h.tame (Tame.of t)
theorem PL.at {H : Hp} {vs : List V} {l : List (Nat × List Nat)} (h : PL H vs l) {i : Nat} {p : Nat × List Nat} (e : l[i]? = some p) : ∃ a, vs[i]? = some (.ref a) ∧ H a = some (.tup [.int ((p.1 : Nat) : Int), .str (txt p.2)]) := by
  have hl : i < vs.length := by rw [h.1]; exact (List.getElem?_eq_some_iff.mp e).1
  obtain ⟨p', a, h1, h2, h3⟩ := h.2 i vs[i] (List.getElem?_eq_getElem hl)
  rw [e] at h1
  cases h1
  exact ⟨a, by rw [List.getElem?_eq_getElem hl, h2], h3⟩
theorem PL.snoc {H : Hp} {vs : List V} {l : List (Nat × List Nat)} {a : Addr} {p : Nat × List Nat} (h : PL H vs l) (hv : H a = some (.tup [.int ((p.1 : Nat) : Int), .str (txt p.2)])) : PL H (vs ++ [.ref a]) (l ++ [p]) := by
  refine ⟨by rw [List.length_append, List.length_append, h.1]; rfl, fun i u e => ?_⟩
  by_cases hi : i < vs.length
  · rw [List.getElem?_append_left hi] at e
    obtain ⟨q, b, h1, h2, h3⟩ := h.2 i u e
    exact ⟨q, b, by rw [List.getElem?_append_left (by rw [← h.1]; exact hi)]; exact h1, h2, h3⟩
  · rw [List.getElem?_append_right (by omega)] at e
    have e0 : i - vs.length = 0 := by
      cases q : i - vs.length with
      | zero => rfl
      | succ k => rw [q] at e; simp at e
    rw [e0] at e
    have ev : V.ref a = u := Option.some.inj e
    subst ev
    refine ⟨p, a, ?_, rfl, hv⟩
    rw [List.getElem?_append_right (by rw [← h.1]; omega), show i - l.length = 0 by rw [← h.1]; exact e0]
    rfl
theorem fsts_vals (l : List (Nat × List Nat)) : (List.range l.length).map (fun j => V.int (((fsts l).getD j 0 : Nat) : Int)) = tI (fsts l) := by
  have h := vals_of (fun s => s) (fsts l)
  rw [List.map_id'] at h
  rw [← h]
  unfold fsts
  rw [List.length_map]
theorem fsts_get {l : List (Nat × List Nat)} {j : Nat} {p : Nat × List Nat} (h : l[j]? = some p) : (fsts l).getD j 0 = p.1 := getD_of (by unfold fsts; rw [List.getElem?_map, h]; rfl)
def sp_lreach : Sp := fun vs H Q _ => ∃ (b : Addr) (M : Mc) (vrs : List V), vs = [.ref b, .str (al M), .int (M.s0 : Int)] ∧ M.Ok ∧ H b = some (.lst vrs) ∧ TL H vrs M.rows ∧
  ∀ H' c vps l, H c = none → Same H H' → H' c = some (.lst vps) → PL H' vps l → l.length ≤ 8 → Rc M (fsts l) → Q (.ref c) H'
section
variable {P : Program} {w : World} {K : Fr} {mg : Str → Option Value} {base : Heap} {fd : FuncData} {f CM : Addr}
theorem ok_lreach (F0 : FnP K "_law_reach" s__law_reach f fd) (T : Bt mg) : FnOk P w K mg base CX0 1 f fd ["_law_goals", "_law_signs", "_law_at"] sp_lreach := by
  refine F0.ok sc__law_reach (fun vs H Q E h => ?_) (fun cdv A outer s H vs Q E hr h => ?_)
  · obtain ⟨b, M, vrs, rfl, _⟩ := h
    rfl
  · obtain ⟨b, M, vrs, rfl, ok, hb, htl, q⟩ := h
    refine ⟨_, PSs.nox (pss_cons (ps_par (by rfl) sc__law_reach.nd (i := 3) (j := 4) rfl rfl (by decide) rfl rfl (pa_cons (pe_lst (pa_cons (pe_tup (pa_cons (pv 2) (pa_cons pe_str pa_nil))) pa_nil)) (pa_cons pe_int pa_nil)) (by rfl))
  (pss_cons (ps_while PassesOwn.never (pt_cmpR op_lt (pv 4) (pe_callB (callLenSeq K) (by rfl) T.len PySem.boot_len (pa_cons (pv 3) pa_nil)) (nomark _)) (pss_cons (ps_asg (pe_ix (ixL K) (pv 3) (pv 4) (fun _ _ => rfl)) (pg_tupK K rfl (pgs_cons (pg_name (i := 5) sc__law_reach.nd rfl (Or.inl rfl)) (pgs_cons (pg_name (i := 6) sc__law_reach.nd rfl (Or.inl rfl)) pgs_nil))))
  (pss_cons (ps_set (i := 4) sc__law_reach.nd rfl (Or.inl rfl) (pe_op op_add (pv 4) pe_int))
  (pss_one (ps_for PassesOwn.never rfl (pi_range1 (by rfl) T.range (pa_cons (pe_callB call_len_str (by rfl) T.len PySem.boot_len (pa_cons (pv 1) pa_nil)) pa_nil)) (pg_name (i := 7) sc__law_reach.nd rfl (Or.inl rfl))
  (pss_one (ps_if (pt_cmpR (opNotInSeq K) (pe_ix (ixT K) (pe_ix (ixL K) (pv 0) (pv 5) (fun _ _ => rfl)) (pv 7) (fun _ _ => rfl)) (pe_lc (own := [("_law_one", 8), ("_law_late", 9)]) (g := gTup K 2 (gCons (gName 8) (gCons (gName 9) gNil))) (tt := tYes) rfl sc__law_reach.nd (piL K (pv 3))
  (blkOk_by (N := ["_law_goals", "_law_signs", "_law_at", "_law_found", "_law_done", "_law_here", "_law_text", "_law_k", "_law_one", "_law_late"]) (sc := defScope s__law_reach) (by decide +kernel)) (fun _ _ _ _ _ => (pg_tupK K rfl (pgs_cons (pg_name (i := 8) sc__law_reach.nd rfl (Or.inl rfl)) (pgs_cons (pg_name (i := 9) sc__law_reach.nd rfl (Or.inl rfl)) pgs_nil)))) (fun _ _ _ _ _ => pts_nil) (fun _ _ _ _ _ => (pv 8))) (by rfl)) (pss_one (ps_expr (pe_bm PySem.F.plainAttrs_list PySem.F.slot_list_append PySem.F.type_list_append mt_append (pv 3) (pa_cons (pe_tup (pa_cons (pe_ix (ixT K) (pe_ix (ixL K) (pv 0) (pv 5) (fun _ _ => rfl)) (pv 7) (fun _ _ => rfl)) (pa_cons (pe_op op_add_str (pv 6) (pe_ix ix_str (pv 1) (pv 7) (fun _ _ => rfl))) pa_nil))) pa_nil)))) pss_nil)))))))
  (pss_one (ps_ret (pv 3))))), ?_⟩
    refine ⟨_, rfl, szl (by show 2 ≤ 1000000; decide), fun p0 np0 => ⟨szl (by show 1 ≤ 1000000; decide), fun q1 nq1 => ?_⟩⟩
    have s1 : Same H (upd H p0 (.tup [.int (M.s0 : Int), .str (txt [])])) := same_upd np0
    have hq1H := s1.free nq1
    have s2 : Same H (upd (upd H p0 (.tup [.int (M.s0 : Int), .str (txt [])])) q1 (.lst [.ref p0])) := s1.trans (same_upd nq1)
    refine ⟨_, _, rfl, fun m σ H' => ∃ l vps k v5 v6 v7, σ = [some (.ref b), some (.str (al M)), some (.int (M.s0 : Int)), some (.ref q1), some (.int ((k : Nat) : Int)), v5, v6, v7, none, none] ∧ m = 8 - k ∧ Same H H' ∧ H' q1 = some (.lst vps) ∧ PL H' vps l ∧ Fw M l k,
      ⟨8, [(M.s0, [])], [.ref p0], 0, none, none, none, rfl, rfl, s2, upd_same, ⟨rfl, fun i v e => ?_⟩, ⟨Nat.zero_le _, by simp [fsts], List.mem_singleton.mpr rfl, fun p hp => ?_, fun j s hj => absurd hj (Nat.not_lt_zero _)⟩⟩, ?_⟩
    · match i, e with
      | 0, e =>
        cases e
        exact ⟨_, p0, rfl, rfl, same_upd nq1 _ _ upd_same⟩
    · rw [List.mem_singleton.mp hp]
      exact ⟨ok.st, fun i hi => (List.not_mem_nil hi).elim, rfl, Nat.zero_le _⟩
    rintro m σ H4 ⟨l, vps, k, v5, v6, v7, rfl, rfl, sm4, h4q, hPL, hF⟩
    have hfew := hF.few ok
    refine ⟨_, rfl, _, rfl, q1, _, rfl, .inl (SqL.of h4q), _, _, rfl, rfl, _, rfl, ?_⟩
    refine ite2 (fun hlt => ?_) (fun hge => ?_)
    · have hkl : k < l.length := by
        have := of_decide_eq_true hlt
        rw [hPL.1] at this
        omega
      obtain ⟨pl, hpl⟩ : ∃ pl, l[k]? = some pl := ⟨_, List.getElem?_eq_getElem hkl⟩
      obtain ⟨hp1, hp2, hp3, hp4⟩ := hF.ok pl (List.mem_of_getElem? hpl)
      obtain ⟨rv, hrv, ar, rfl, har⟩ := htl.at (ok.get hp1)
      obtain ⟨ap, hap, hap2⟩ := hPL.at hpl
      have hkk : (al M).length = M.k := by unfold al; rw [txt_len, List.length_range]
      have hk1 := ok.k3
      refine ⟨fun σ' H' => ∃ m', m' < 8 - k ∧ ∃ l vps k v5 v6 v7, σ' = [some (.ref b), some (.str (al M)), some (.int (M.s0 : Int)), some (.ref q1), some (.int ((k : Nat) : Int)), v5, v6, v7, none, none] ∧ m' = 8 - k ∧ Same H H' ∧ H' q1 = some (.lst vps) ∧ PL H' vps l ∧ Fw M l k, fun σ' H' h => h, ?_⟩
      refine ⟨_, rfl, _, rfl, q1, _, (k : Int), .ref ap, rfl, rfl, SqL.of h4q, atI_nat hap, ap, _, rfl, SqT.of hap2, rfl, _, _, rfl, _, _, rfl, rfl, ?_⟩
      refine ⟨_, rfl, _, _, rfl, rfl, ?_⟩
      refine ⟨_, rfl, al M, rfl, by rw [hkk]; exact szl (by omega), ((al M).length : Int), rfl, by omega, by omega, ?_⟩
      have hnn : (((al M).length : Nat) : Int).toNat = M.k := by rw [hkk]; omega
      rw [hnn]
      refine for_wk (wk_rng (H0 := H)) (fun i σ H' => Same H H' ∧ ∃ l' vps' v7, σ = [some (.ref b), some (.str (al M)), some (.int (M.s0 : Int)), some (.ref q1), some (.int ((k : Int) + 1)), some (.int (pl.1 : Int)), some (.str (txt pl.2)), v7, none, none] ∧ H' q1 = some (.lst vps') ∧ PL H' vps' l' ∧ Fw M l' k ∧ l'[k]? = some pl ∧ ∀ j, j < i → M.stp pl.1 j ∈ fsts l')
        ⟨sm4, l, vps, v7, rfl, h4q, hPL, hF, hpl, fun j hj => absurd hj (Nat.not_lt_zero _)⟩ (fun i σ H h => h.1) ?_ ?_
      · rintro i x σ H5 H6 hi ⟨sm5, l', vps', v7, rfl, h5q, hPL', hF', hpl', hdone⟩ s56 rfl
        have sm6 := sm5.trans s56
        have h6q := s56 _ _ h5q
        have hfew' := hF'.few ok
        have hb6 := sm6 _ _ hb
        have har6 := sm6 _ _ har
        obtain ⟨_, hq2, hq3, hq4⟩ := hF'.ok pl (List.mem_of_getElem? hpl')
        rw [show (0 : Int) + (i : Int) = (i : Int) by omega]
        refine ⟨_, rfl, _, rfl, b, vrs, (pl.1 : Int), .ref ar, rfl, rfl, SqL.of hb6, atI_nat hrv, _, rfl, ar, _, (i : Int), .int (M.stp pl.1 i : Nat), rfl, rfl, SqT.of har6, atI_nat (tI_at (ok.rowAt hp1 hi)), ?_⟩
        refine ⟨_, rfl, q1, rfl, ⟨_, SqL.of h6q⟩, fun D nD => ?_⟩
        refine lc_vals (fun j => V.int (((fsts l').getD j 0 : Nat) : Int)) (wk_lst (K := K) (SqL.of h6q)) nD (by rw [hPL'.1]; omega) (fun j σ2 _ => ∃ p, l'[j]? = some p ∧ σ2 = [some (.ref b), some (.str (al M)), some (.int (M.s0 : Int)), some (.ref q1), some (.int ((k : Int) + 1)), some (.int (pl.1 : Int)), some (.str (txt pl.2)), some (.int (i : Int)), some (.int ((p.1 : Nat) : Int)), some (.str (txt p.2))]) ?_ ?_ ?_
        · rintro j y H' Q' hj sm hy kk
          obtain ⟨p, a, h1, rfl, h3⟩ := hPL'.2 j y hy
          exact ⟨a, _, rfl, SqT.of (sm _ _ (s56 _ _ h3)), rfl, _, _, rfl, _, _, rfl, rfl, kk _ rfl ⟨p, h1, rfl⟩⟩
        · rintro j σ2 H' hj sm ⟨p, h1, rfl⟩ Q' q'
          refine ⟨_, rfl, q' _ _ (Same.refl _) ?_⟩
          rw [fsts_get h1]
        · intro H7 s7 hl7
          rw [hPL'.1, fsts_vals] at hl7
          refine ⟨D, _, rfl, .inl (SqL.of hl7), rfl, tI_flat _, _, rfl, ?_⟩
          rw [show (if true = true then !inV (V.int (M.stp pl.1 i : Nat)) (tI (fsts l')) else inV (V.int (M.stp pl.1 i : Nat)) (tI (fsts l'))) = !decide (M.stp pl.1 i ∈ fsts l') by rw [if_pos rfl, inV_tI]]
          have sm7 := sm6.trans s7
          have h7q := s7 _ _ h6q
          have hPL7 := hPL'.same (s56.trans s7)
          refine ite2 (fun hnew => ?_) (fun hold => ?_)
          · have hnk : M.stp pl.1 i ∉ fsts l' := fun hin => by
              rw [decide_eq_true hin] at hnew
              cases hnew
            have hai : atI (al M).cps.toList (i : Int) = some (i + 97) := atI_nat (by
              unfold al txt
              have : (List.range M.k)[i]? = some i := range_get hi
              simp [this, hi])
            refine ⟨.ref q1, rfl, .inl ⟨rfl, _, SqL.of h7q⟩, _, rfl, _, rfl, b, vrs, (pl.1 : Int), .ref ar, rfl, rfl, SqL.of (s7 _ _ hb6), atI_nat hrv, _, rfl, ar, _, (i : Int), .int (M.stp pl.1 i : Nat), rfl, rfl, SqT.of (s7 _ _ har6), atI_nat (tI_at (ok.rowAt hp1 hi)), ?_⟩
            refine ⟨_, rfl, _, rfl, _, rfl, al M, (i : Int), i + 97, rfl, rfl, by rw [hkk]; exact szl (by omega), hai, txt pl.2, txt [i], rfl, rfl, szl (by rw [txt_len, txt_len]; show pl.2.length + 1 ≤ _; omega), ?_⟩
            rw [txt_app]
            refine ⟨szl (by show 2 ≤ 1000000; decide), fun t nt => ?_⟩
            have s8 := same_upd (o := .tup [.int ((M.stp pl.1 i : Nat) : Int), .str (txt (pl.2 ++ [i]))]) nt
            have h8q := s8 _ _ h7q
            refine ⟨q1, _, _, rfl, rfl, h8q, szl' (by rw [hPL'.1]; omega), ?_⟩
            have t9 : Tame (upd H7 t (.tup [.int ((M.stp pl.1 i : Nat) : Int), .str (txt (pl.2 ++ [i]))])) (upd (upd H7 t (.tup [.int ((M.stp pl.1 i : Nat) : Int), .str (txt (pl.2 ++ [i]))])) q1 (.lst (vps' ++ [.ref t]))) := Tame.upd (Soft.lst h8q)
            refine ⟨(sm7.trans s8).upd' hq1H, l' ++ [(M.stp pl.1 i, pl.2 ++ [i])], vps' ++ [.ref t], _, rfl, upd_same, (hPL7.tame ((Tame.of s8).trans t9)).snoc (t9.1 _ _ upd_same), hF'.more hnk (ok.lt hp1 hi) (fun z hz => ?_) (by rw [Mc.run_snoc, hq3]) (by rw [List.length_append]; show pl.2.length + 1 ≤ _; omega), by rw [List.getElem?_append_left (by have := (List.getElem?_eq_some_iff.mp hpl').1; exact this)]; exact hpl', fun j hj => ?_⟩
            · rcases List.mem_append.mp hz with h | h
              · exact hq2 z h
              · rw [List.mem_singleton.mp h]; exact hi
            · rw [fsts_snoc]
              rcases Nat.lt_or_ge j i with h | h
              · exact List.mem_append_left _ (hdone j h)
              · have : j = i := by omega
                subst this
                exact List.mem_append_right _ (List.mem_singleton.mpr rfl)
          · have hin : M.stp pl.1 i ∈ fsts l' := by
              by_cases hin : M.stp pl.1 i ∈ fsts l'
              · exact hin
              · exact absurd (by rw [decide_eq_false hin]; rfl) hold
            refine ⟨sm7, l', vps', _, rfl, h7q, hPL7, hF', hpl', fun j hj => ?_⟩
            rcases Nat.lt_or_ge j i with h | h
            · exact hdone j h
            · have : j = i := by omega
              subst this
              exact hin
      · rintro σ H5 ⟨sm5, l', vps', v7, rfl, h5q, hPL', hF', hpl', hdone⟩
        refine ⟨8 - (k + 1), by omega, l', vps', k + 1, _, _, _, rfl, rfl, sm5, h5q, hPL', (List.getElem?_eq_some_iff.mp hpl').1, hF'.nd, hF'.st, hF'.ok, fun j s hj hs i hi => ?_⟩
        rcases Nat.lt_or_ge j k with h | h
        · exact hF'.cl j s h hs i hi
        · have : j = k := by omega
          subst this
          have e : (fsts l')[j]? = some pl.1 := by unfold fsts; rw [List.getElem?_map, hpl']; rfl
          rw [e] at hs
          cases hs
          exact hdone i hi
    · have hkl : k = l.length := by
        have h1 := hF.le
        have h2 : ¬ ((k : Int) < (vps.length : Int)) := fun z => hge (decide_eq_true z)
        rw [hPL.1] at h2
        omega
      refine ⟨_, rfl, q H4 q1 vps l hq1H sm4 h4q hPL hfew ⟨hF.nd, hF.st, fun s hs => ?_, fun s hs i hi => ?_, fun s hs => ?_⟩⟩
      · obtain ⟨p, hp, rfl⟩ := List.mem_map.mp hs
        exact (hF.ok p hp).1
      · obtain ⟨j, hj, e⟩ := List.getElem_of_mem hs
        rw [List.length_map] at hj
        exact hF.cl j s (by omega) (by rw [List.getElem?_eq_getElem (by rw [List.length_map]; exact hj), e]) i hi
      · obtain ⟨p, hp, rfl⟩ := List.mem_map.mp hs
        exact ⟨p.2, (hF.ok p hp).2.1, (hF.ok p hp).2.2.1⟩
end
end Kn
/-! H6 -/
set_option maxHeartbeats 1000000
namespace Kn
open PySem PySem.Spec PyProof.Rows L2
theorem sc__law_is_prime : FnScope ["_law_number", "_law_k"] ["_law_number"] (defScope s__law_is_prime) := ⟨rfl, rfl, rfl, by decide +kernel, rfl, by decide +kernel, by decide +kernel⟩
theorem sc__law_is_states : FnScope ["_law_value", "_law_some", "_law_one", "_law_k"] ["_law_value", "_law_some"] (defScope s__law_is_states) := ⟨rfl, rfl, rfl, by decide +kernel, rfl, by decide +kernel, by decide +kernel⟩
theorem crSortedI {X : Cx} (K : Fr) (hK : X.K = K := by rfl) : CallR X (.builtin "sorted") (rSortedI K) := by subst hK; exact cr_sortedI
theorem prm_div {n : Nat} (h : prm n = true) : ∀ k, 2 ≤ k → k < n → n % k ≠ 0 := by
  have h' : n = 2 ∨ n = 3 ∨ n = 5 ∨ n = 7 := by
    unfold prm at h
    simp only [Bool.or_eq_true, beq_iff_eq] at h
    omega
  have key : ∀ m, m = 2 ∨ m = 3 ∨ m = 5 ∨ m = 7 → ∀ k, k < m → 2 ≤ k → m % k ≠ 0 := by
    rintro m (rfl | rfl | rfl | rfl)
    · decide
    · decide
    · decide
    · decide
  exact fun k h2 hk => key n h' k hk h2
def sp_lprime : Sp := fun vs H Q _ => ∃ n : Nat, vs = [.int (n : Int)] ∧ n ≤ 8 ∧ prm n = true ∧ ∀ H', Same H H' → Q (.bl true) H'
def sp_lstates : Sp := fun vs H Q _ => ∃ (a b : Addr) (ss rs : List Nat), vs = [.ref a, .ref b] ∧ Rd H a (.tup (tI ss)) ∧ H b = some (.lst (tI rs)) ∧ ss ≠ [] ∧ ss.length ≤ 1000 ∧ (∀ s ∈ ss, s ∈ rs ∧ s < 1000000000) ∧ ss.Pairwise (· < ·) ∧ ∀ H', Same H H' → Q (.bl true) H'
section
variable {P : Program} {w : World} {K : Fr} {mg : Str → Option Value} {base : Heap} {fd : FuncData} {f CM : Addr}
theorem ok_lprime (F0 : FnP K "_law_is_prime" s__law_is_prime f fd) (T : Bt mg) : FnOk P w K mg base CX0 1 f fd ["_law_number"] sp_lprime := by
  refine F0.ok sc__law_is_prime (fun vs H Q E h => ?_) (fun cdv A outer s H vs Q E hr h => ?_)
  · obtain ⟨n, rfl, _⟩ := h
    rfl
  · obtain ⟨n, rfl, h8, hp, q⟩ := h
    refine ⟨_, PSs.nox (pss_one (ps_ret (pe_and (pe_cmpR op_gt (pv 0) pe_int (nomark _)) (pe_one (pe_cmpR (opEqD K hr.units) (pe_lc (own := [("_law_k", 1)]) (g := gName 1) rfl sc__law_is_prime.nd (pi_range2 (by rfl) T.range (pa_cons pe_int (pa_cons (pv 0) pa_nil)))
  (blkOk_by (N := ["_law_number", "_law_k"]) (sc := defScope s__law_is_prime) (by decide +kernel)) (fun _ _ _ _ _ => pg_name (i := 1) sc__law_is_prime.nd rfl (Or.inl rfl)) (fun _ _ _ _ _ => (pts_one (pt_cmpR op_eq (pe_op op_mod (pe_callTy call_int1 (by rfl) T.int (by decide +kernel) (pa_cons (pv 0) pa_nil)) (pv 1)) pe_int (nomark _)))) (fun _ _ _ _ _ => (pv 1))) (pe_lst pa_nil) (nomark _)))))), ?_⟩
    have h1 : 2 ≤ n := by
      unfold prm at hp
      simp only [Bool.or_eq_true, beq_iff_eq] at hp
      omega
    refine ⟨_, rfl, _, _, rfl, rfl, _, rfl, ?_⟩
    rw [decide_eq_true (by omega : (n : Int) > 1)]
    refine iteT ?_
    refine ⟨_, rfl, 2, n, rfl, ⟨by omega, by omega, by omega, by omega⟩, fun D nD => ?_⟩
    refine lc_wk (wk_rng (H0 := H)) (fun i H' => Same H H' ∧ H' D = some (.lst [])) ⟨same_upd nD, upd_same⟩ (fun i H' h => h.1) ?_ ?_
    · rintro i x H1 H2 hi ⟨s1, hD1⟩ s12 rfl
      refine ⟨rfl, ?_⟩
      have hk : 2 + i < n := by omega
      refine ⟨_, rfl, .inl ⟨_, rfl, _, rfl, _, _, rfl, rfl, (by show (0 : Int) < 2 + (i : Int); omega), rfl, _, rfl, ?_⟩⟩
      rw [show (2 : Int) + (i : Int) = ((2 + i : Nat) : Int) by omega]
      have e0 : decide ((fun i j : Int => V.int (i % j)) (n : Int) ((2 + i : Nat) : Int) = V.int 0) = false := decide_eq_false fun e => by
        have e : V.int ((n : Int) % ((2 + i : Nat) : Int)) = V.int 0 := e
        rw [show ((n : Int) % ((2 + i : Nat) : Int)) = ((n % (2 + i) : Nat) : Int) from (Int.natCast_emod _ _).symm] at e
        injection e with e
        exact prm_div hp (2 + i) (by omega) hk (by omega)
      rw [e0]
      exact iteF ⟨s1.trans s12, s12 _ _ hD1⟩
    · rintro H1 ⟨s1, hD1⟩
      refine ⟨szl (by show 0 ≤ 1000000; decide), fun l nl => eqd_L (xs := []) (ys := []) (SqL.of (same_upd nl _ _ hD1)) (SqL.of upd_same) ?_⟩
      rw [decide_eq_true rfl]
      exact q _ (s1.trans (same_upd nl))
theorem ok_lstates (F0 : FnP K "_law_is_states" s__law_is_states f fd) (T : Bt mg) (F__law_is_index : Fo P w K mg base "_law_is_index" ["_law_value", "_law_many"] 1 sp_lindex) : FnOk P w K mg base CX0 2 f fd ["_law_value", "_law_some"] sp_lstates := by
  refine F0.ok sc__law_is_states (fun vs H Q E h => ?_) (fun cdv A outer s H vs Q E hr h => ?_)
  · obtain ⟨a, b, ss, rs, rfl, _⟩ := h
    rfl
  · obtain ⟨a, b, ss, rs, rfl, ha, hb, hne, hl, hsub, hasc, q⟩ := h
    refine ⟨_, PSs.nox (pss_cons (ps_if (PW.pt (pw_or (pt_not (pt_val (pe_callB (callIsi K) (by rfl) T.isinstance (by decide +kernel) (pa_cons (pv 0) (pa_cons (pe_bltn (v := .ty "tuple") (by rfl) T.tuple (by decide +kernel) rfl) pa_nil))))) (pw_or (pt_cmpR (opEqD K hr.units) (pv 0) (pe_tup pa_nil) (nomark _)) (pw_or1 (pt_not (pt_val (pe_callB (crAll K) (by rfl) T.all (by decide +kernel) (pa_cons (pe_lc (own := [("_law_one", 2)]) (g := gName 2) (tt := tYes) rfl sc__law_is_states.nd (piT K (pv 0))
  (blkOk_by (N := ["_law_value", "_law_some", "_law_one", "_law_k"]) (sc := defScope s__law_is_states) (by decide +kernel)) (fun _ _ _ _ _ => pg_name (i := 2) sc__law_is_states.nd rfl (Or.inl rfl)) (fun _ _ _ _ _ => pts_nil) (fun _ _ _ _ _ => (pc F__law_is_index hr (by rfl) (pa_cons (pv 2) (pa_cons (pe_op op_pow pe_int pe_int) pa_nil))))) pa_nil)))))))) (pss_one (ps_ret pe_bl)) pss_nil)
  (pss_one (ps_ret (pe_and (pe_callB (crAll K) (by rfl) T.all (by decide +kernel) (pa_cons (pe_lc (own := [("_law_k", 3)]) (g := gName 3) (tt := tYes) rfl sc__law_is_states.nd (pi_range2 (by rfl) T.range (pa_cons pe_int (pa_cons (pe_callB (callLenSeq K) (by rfl) T.len PySem.boot_len (pa_cons (pv 0) pa_nil)) pa_nil)))
  (blkOk_by (N := ["_law_value", "_law_some", "_law_one", "_law_k"]) (sc := defScope s__law_is_states) (by decide +kernel)) (fun _ _ _ _ _ => pg_name (i := 3) sc__law_is_states.nd rfl (Or.inl rfl)) (fun _ _ _ _ _ => pts_nil) (fun _ _ _ _ _ => (pe_cmpR op_lt (pe_ix (ixT K) (pv 0) (pe_op op_sub (pv 3) pe_int) (fun _ _ => rfl)) (pe_ix (ixT K) (pv 0) (pv 3) (fun _ _ => rfl)) (nomark _)))) pa_nil)) (pe_one (pe_callB (crAll K) (by rfl) T.all (by decide +kernel) (pa_cons (pe_lc (own := [("_law_one", 2)]) (g := gName 2) (tt := tYes) rfl sc__law_is_states.nd (piT K (pv 0))
  (blkOk_by (N := ["_law_value", "_law_some", "_law_one", "_law_k"]) (sc := defScope s__law_is_states) (by decide +kernel)) (fun _ _ _ _ _ => pg_name (i := 2) sc__law_is_states.nd rfl (Or.inl rfl)) (fun _ _ _ _ _ => pts_nil) (fun _ _ _ _ _ => (pe_cmpR (opInSeq K) (pv 2) (pv 1) (by rfl)))) pa_nil))))))), ?_⟩
    have hlo : ss.length ≠ 0 := fun e => hne (List.length_eq_zero_iff.mp e)
    refine ⟨_, rfl, _, _, _, _, _, rfl, .ty _, tyTz ha, kit_ty k_tt, true, rfl, iteF ?_⟩
    refine ⟨_, rfl, szl (by show 0 ≤ 1000000; decide), fun p0 np0 => eqd_T (xs := ss) (ys := []) ((ha.same (same_upd np0)).sq) (SqT.of upd_same) ⟨_, rfl, ?_⟩⟩
    have s0 : Same H (upd H p0 (.tup [])) := same_upd np0
    rw [decide_eq_false hne]
    refine iteF ?_
    have ha0 := ha.same s0
    refine ⟨_, rfl, a, rfl, ⟨_, ha0.sq⟩, fun D hD => ?_⟩
    refine lc_bools (fun _ => true) (wk_tup ha0.sq) hD (by rw [tI_len]; omega) (fun i σ2 _ => ∃ x : Nat, x ∈ ss ∧ σ2 = [some (.ref a), some (.ref b), some (.int (x : Int)), none]) (fun i x H' Q' hi sm hx kk => ?_) ?_ ?_
    · obtain ⟨y, hy, rfl⟩ := tI_get hx
      exact kk _ rfl ⟨y, List.mem_of_getElem? hy, rfl⟩
    · rintro i σ2 H' hi sm ⟨x, hx, rfl⟩ Q' q'
      exact ⟨_, rfl, _, _, rfl, rfl, ⟨by decide, by decide, by decide⟩, x, 1000000000, rfl, (hsub x hx).2, q' _ _ (Same.refl _) rfl⟩
    · intro H1 s1 hl1
      refine ⟨D, _, rfl, SqL.of hl1, ?_⟩
      rw [all_true]
      refine ⟨true, rfl, iteF ?_⟩
      have s01 := s0.trans s1
      have ha1 := ha.same s01
      refine ⟨_, rfl, a, _, rfl, .inr ha1.sq, 1, ((tI ss).length : Int), rfl, ⟨by omega, by omega, by rw [tI_len]; omega, by rw [tI_len]; omega⟩, fun D2 nD2 => ?_⟩
      rw [tI_len]
      refine lc_bools (fun _ => true) (wk_rng (H0 := H1)) nD2 (by omega) (fun i σ2 H' => i + 1 < ss.length ∧ Same H1 H' ∧ σ2 = [some (.ref a), some (.ref b), none, some (.int (1 + (i : Int)))]) (fun i x H' Q' hi sm hx kk => ?_) ?_ ?_
      · subst hx
        exact kk _ rfl ⟨by omega, sm, rfl⟩
      · rintro i σ2 H' hi sm ⟨hlt, _, rfl⟩ Q' q'
        have hai := (ha1.same sm).sq (K := K)
        refine ⟨_, rfl, _, rfl, _, _, rfl, rfl, a, tI ss, 1 + (i : Int) - 1, .int ((ss.getD i 0 : Nat) : Int), rfl, rfl, hai, ?_, _, rfl, _, rfl, a, tI ss, 1 + (i : Int), .int ((ss.getD (i + 1) 0 : Nat) : Int), rfl, rfl, hai, ?_, _, _, rfl, rfl, q' _ _ (Same.refl _) ?_⟩
        · rw [show 1 + (i : Int) - 1 = (i : Int) by omega]
          exact atI_nat (tI_at (some_getD (by omega)))
        · rw [show 1 + (i : Int) = ((i + 1 : Nat) : Int) by omega]
          exact atI_nat (tI_at (some_getD hlt))
        · show V.bl _ = V.bl true
          congr 1
          exact decide_eq_true (by have := pw_get hasc hlt; omega)
      · intro H2 s2 hl2
        refine ⟨D2, _, rfl, SqL.of hl2, ?_⟩
        rw [all_true]
        refine ⟨true, rfl, iteT ?_⟩
        have s02 := s01.trans s2
        have ha2 := ha.same s02
        refine ⟨_, rfl, a, rfl, ⟨_, ha2.sq⟩, fun D3 nD3 => ?_⟩
        refine lc_bools (fun _ => true) (wk_tup ha2.sq) nD3 (by rw [tI_len]; omega) (fun i σ2 _ => ∃ x : Nat, x ∈ ss ∧ σ2 = [some (.ref a), some (.ref b), some (.int (x : Int)), none]) (fun i x H' Q' hi sm hx kk => ?_) ?_ ?_
        · obtain ⟨y, hy, rfl⟩ := tI_get hx
          exact kk _ rfl ⟨y, List.mem_of_getElem? hy, rfl⟩
        · rintro i σ2 H3 hi sm3 ⟨x, hx, rfl⟩ Q' q'
          refine ⟨_, rfl, _, rfl, b, _, rfl, .inl (SqL.of (sm3 _ _ (s02 _ _ hb))), rfl, tI_flat _, ?_⟩
          rw [inV_tI, decide_eq_true (hsub x hx).1]
          exact q' _ _ (Same.refl _) rfl
        · intro H3 sm3 hl3
          refine ⟨D3, _, rfl, SqL.of hl3, ?_⟩
          rw [all_true]
          exact q _ (s02.trans sm3)
end
end Kn
/-! H7 -/
set_option maxHeartbeats 1000000
namespace Kn
open PySem PySem.Spec PyProof.Rows L2
theorem sc__law_ring_right : FnScope ["_law_goals", "_law_signs", "_law_begin", "_law_text", "_law_states", "_law_some_primes", "_law_some", "_law_at", "_law_late", "_law_one"] ["_law_goals", "_law_signs", "_law_begin", "_law_text", "_law_states", "_law_some_primes"] (defScope s__law_ring_right) := ⟨rfl, rfl, rfl, by decide +kernel, rfl, by decide +kernel, by decide +kernel⟩
theorem opCatTK {X : Cx} (K : Fr) (hK : X.K = K := by rfl) : OpR X (binaryOp .Add) (rCatT K) := by subst hK; exact op_catT
theorem tI_ints (ns : List Nat) : tI ns = (ns.map fun n : Nat => (n : Int)).map V.int := by unfold tI; rw [List.map_map]; rfl
def sp_lring : Sp := fun vs H Q _ => ∃ (b a vp : Addr) (M : Mc) (vrs : List V) (ss ps wd ns rs : List Nat), vs = [.ref b, .str (al M), .int (M.s0 : Int), .str (txt wd), .ref a, .ref vp] ∧ M.Ok ∧ H b = some (.lst vrs) ∧ TL H vrs M.rows ∧ Rd H a (.tup (tI ns)) ∧ H vp = some (.lst (tI ps)) ∧ RingA M ss ps wd ns ∧ Rc M rs ∧ (∀ s ∈ ns, s ∈ rs) ∧ ∀ H', Same H H' → Q (.bl true) H'
theorem Rc.few {M : Mc} {rs : List Nat} (h : Rc M rs) (ok : M.Ok) : rs.length ≤ 8 := by
  have := len_sub (m := List.range M.rows.length) h.nd fun s hs => List.mem_range.mpr (h.lt s hs)
  rw [List.length_range] at this
  have := ok.n8
  omega
section
variable {P : Program} {w : World} {K : Fr} {mg : Str → Option Value} {base : Heap} {fd : FuncData} {f CM : Addr}
theorem ok_lring (F0 : FnP K "_law_ring_right" s__law_ring_right f fd) (T : Bt mg) (F__law_reach : Fo P w K mg base "_law_reach" ["_law_goals", "_law_signs", "_law_at"] 1 sp_lreach) (F__law_is_over : Fo P w K mg base "_law_is_over" ["_law_signs", "_law_value"] 1 sp_isw)
    (F__law_is_index : Fo P w K mg base "_law_is_index" ["_law_value", "_law_many"] 1 sp_lindex) (F__law_is_states : Fo P w K mg base "_law_is_states" ["_law_value", "_law_some"] 2 sp_lstates) (F__law_is_prime : Fo P w K mg base "_law_is_prime" ["_law_number"] 1 sp_lprime) (F__law_go : Fo P w K mg base "_law_go" ["_law_goals", "_law_signs", "_law_at", "_law_text"] 1 sp_lgo) :
    FnOk P w K mg base CX0 3 f fd ["_law_goals", "_law_signs", "_law_begin", "_law_text", "_law_states", "_law_some_primes"] sp_lring := by
  refine F0.ok sc__law_ring_right (fun vs H Q E h => ?_) (fun cdv A outer s H vs Q E hr h => ?_)
  · obtain ⟨b, a, vp, M, vrs, ss, ps, wd, ns, rs, rfl, _⟩ := h
    rfl
  · obtain ⟨b, a, vp, M, vrs, ss, ps, wd, ns, rs, rfl, ok, hb, htl, ha, hvp, hRA, hRc, hsub, q⟩ := h
    refine ⟨_, PSs.nox (pss_cons (ps_setLc (i := 6) (own := [("_law_at", 7), ("_law_late", 8)]) (g := gTup K 2 (gCons (gName 7) (gCons (gName 8) gNil))) (tt := tYes) rfl sc__law_ring_right.nd rfl rfl (sw_true rfl rfl rfl (by decide +kernel)) (piL K (pc F__law_reach hr (by rfl) (pa_cons (pv 0) (pa_cons (pv 1) (pa_cons (pv 2) pa_nil)))))
  (blkOk_by (N := ["_law_goals", "_law_signs", "_law_begin", "_law_text", "_law_states", "_law_some_primes", "_law_some", "_law_at", "_law_late", "_law_one"]) (sc := defScope s__law_ring_right) (by decide +kernel)) (fun _ _ _ _ _ => (pg_tupK K rfl (pgs_cons (pg_name (i := 7) sc__law_ring_right.nd rfl (Or.inl rfl)) (pgs_cons (pg_name (i := 8) sc__law_ring_right.nd rfl (Or.inl rfl)) pgs_nil)))) (fun _ _ _ _ _ => pts_nil) (fun _ _ _ _ _ => (pv 7)))
  (pss_cons (ps_if (PW.pt (pw_or (pt_not (pt_val (pc F__law_is_over hr (by rfl) (pa_cons (pv 1) (pa_cons (pv 3) pa_nil))))) (pw_or (pt_not (pt_val (pe_callB (callIsi K) (by rfl) T.isinstance (by decide +kernel) (pa_cons (pv 4) (pa_cons (pe_bltn (v := .ty "tuple") (by rfl) T.tuple (by decide +kernel) rfl) pa_nil))))) (pw_or1 (pt_not (pt_val (pe_callB (crAll K) (by rfl) T.all (by decide +kernel) (pa_cons (pe_lc (own := [("_law_one", 9)]) (g := gName 9) (tt := tYes) rfl sc__law_ring_right.nd (piT K (pv 4))
  (blkOk_by (N := ["_law_goals", "_law_signs", "_law_begin", "_law_text", "_law_states", "_law_some_primes", "_law_some", "_law_at", "_law_late", "_law_one"]) (sc := defScope s__law_ring_right) (by decide +kernel)) (fun _ _ _ _ _ => pg_name (i := 9) sc__law_ring_right.nd rfl (Or.inl rfl)) (fun _ _ _ _ _ => pts_nil) (fun _ _ _ _ _ => (pc F__law_is_index hr (by rfl) (pa_cons (pv 9) (pa_cons (pe_op op_pow pe_int pe_int) pa_nil))))) pa_nil)))))))) (pss_one (ps_ret pe_bl)) pss_nil)
  (pss_cons (ps_if (pt_not (pt_val (pc F__law_is_states hr (by rfl) (pa_cons (pe_callTy (callTupOf K) (by rfl) T.tuple (by decide +kernel) (pa_cons (pe_callB (crSortedI K) (by rfl) T.sorted PyProof.Rows.Boot.«sorted» (pa_cons (pe_callTy (callListOf K) (by rfl) T.list (by decide +kernel) (pa_cons (pv 4) pa_nil)) pa_nil)) pa_nil)) (pa_cons (pv 6) pa_nil))))) (pss_one (ps_ret pe_bl)) pss_nil)
  (pss_cons (ps_if (PW.pt (pw_or (pt_not (pt_val (pc F__law_is_prime hr (by rfl) (pa_cons (pe_callB (callLenSeq K) (by rfl) T.len PySem.boot_len (pa_cons (pv 4) pa_nil)) pa_nil)))) (pw_or1 (pt_cmpR (opInSeq K) (pe_callB (callLenSeq K) (by rfl) T.len PySem.boot_len (pa_cons (pv 4) pa_nil)) (pv 5) (by rfl))))) (pss_one (ps_ret pe_bl)) pss_nil)
  (pss_one (ps_ret (pe_cmpR (opEqD K hr.units) (pe_lc (own := [("_law_one", 9)]) (g := gName 9) (tt := tYes) rfl sc__law_ring_right.nd (piT K (pv 4))
  (blkOk_by (N := ["_law_goals", "_law_signs", "_law_begin", "_law_text", "_law_states", "_law_some_primes", "_law_some", "_law_at", "_law_late", "_law_one"]) (sc := defScope s__law_ring_right) (by decide +kernel)) (fun _ _ _ _ _ => pg_name (i := 9) sc__law_ring_right.nd rfl (Or.inl rfl)) (fun _ _ _ _ _ => pts_nil) (fun _ _ _ _ _ => (pc F__law_go hr (by rfl) (pa_cons (pv 0) (pa_cons (pv 1) (pa_cons (pv 9) (pa_cons (pv 3) pa_nil))))))) (pe_callTy (callListOf K) (by rfl) T.list (by decide +kernel) (pa_cons (pe_op (opCatTK K) (pe_slice (slT K) (pv 4) (po_some pe_int) po_none) (pe_slice (slT K) (pv 4) po_none (po_some pe_int))) pa_nil)) (nomark _)))))))), ?_⟩
    have hk3 := ok.k3
    have hn8 := ok.n8
    have hnl : ns.length ≤ 8 := by
      have h1 := len_sub (m := rs) hRA.nd hsub
      have h2 := hRc.few ok
      omega
    have h2n : 2 ≤ ns.length := by
      have hp := hRA.pr
      unfold prm at hp
      simp only [Bool.or_eq_true, beq_iff_eq] at hp
      omega
    have hlt : ∀ s ∈ ns, s < M.rows.length := fun s hs => hRc.lt s (hsub s hs)
    refine ⟨_, rfl, _, rfl, _, rfl, b, M, vrs, rfl, ok, hb, htl, fun H1 c vps l nc s1 hc hPL hl8 hR1 => ⟨c, rfl, ⟨_, SqL.of hc⟩, fun D nD => ?_⟩⟩
    have hin : ∀ s ∈ ns, s ∈ fsts l := fun s hs => hRc.sub hR1 s (hsub s hs)
    refine lc_vals (fun j => V.int (((fsts l).getD j 0 : Nat) : Int)) (wk_lst (K := K) (SqL.of hc)) nD (by rw [hPL.1]; omega) (fun j σ2 _ => ∃ p, l[j]? = some p ∧ σ2 = [some (.ref b), some (.str (al M)), some (.int (M.s0 : Int)), some (.str (txt wd)), some (.ref a), some (.ref vp), none, some (.int ((p.1 : Nat) : Int)), some (.str (txt p.2)), none]) ?_ ?_ ?_
    · rintro j y H' Q' hj sm hy kk
      obtain ⟨p, ap, h1, rfl, h3⟩ := hPL.2 j y hy
      exact ⟨ap, _, rfl, SqT.of (sm _ _ h3), rfl, _, _, rfl, _, _, rfl, rfl, kk _ rfl ⟨p, h1, rfl⟩⟩
    · rintro j σ2 H' hj sm ⟨p, h1, rfl⟩ Q' q'
      refine ⟨_, rfl, q' _ _ (Same.refl _) ?_⟩
      rw [fsts_get h1]
    · intro H2 s2 hD2
      rw [hPL.1, fsts_vals] at hD2
      have s02 := s1.trans s2
      refine ⟨_, rfl, _, rfl, M.k, wd, rfl, by omega, hRA.wdk, hRA.wl, fun H3 s3 => ⟨true, rfl, iteF ?_⟩⟩
      have s03 := s02.trans s3
      have ha3 := ha.same s03
      refine ⟨_, rfl, _, _, _, _, _, rfl, .ty _, tyTz ha3, kit_ty k_tt, true, rfl, iteF ?_⟩
      refine ⟨_, rfl, a, rfl, ⟨_, ha3.sq⟩, fun D2 nD2 => ?_⟩
      refine lc_bools (fun _ => true) (wk_tup ha3.sq) nD2 (by rw [tI_len]; omega) (fun i σ2 _ => ∃ x : Nat, x ∈ ns ∧ σ2 = [some (.ref b), some (.str (al M)), some (.int (M.s0 : Int)), some (.str (txt wd)), some (.ref a), some (.ref vp), some (.ref D), none, none, some (.int (x : Int))]) (fun i x H' Q' hi sm hx kk => ?_) ?_ ?_
      · obtain ⟨y, hy, rfl⟩ := tI_get hx
        exact kk _ rfl ⟨y, List.mem_of_getElem? hy, rfl⟩
      · rintro i σ2 H' hi sm ⟨x, hx, rfl⟩ Q' q'
        have := hlt x hx
        exact ⟨_, rfl, _, _, rfl, rfl, ⟨by decide, by decide, by decide⟩, x, 1000000000, rfl, by omega, q' _ _ (Same.refl _) rfl⟩
      · intro H4 s4 hl4
        refine ⟨D2, _, rfl, SqL.of hl4, ?_⟩
        rw [all_true]
        refine ⟨true, rfl, iteF ?_⟩
        have s04 := s03.trans s4
        have ha4 := ha.same s04
        have hD4 := (s3.trans s4) _ _ hD2
        -- is_states(tuple(sorted(list(states))), some)
        refine ⟨_, rfl, a, _, rfl, .inr ha4.sq, fun p5 np5 => ⟨p5, ns.map (fun n : Nat => (n : Int)), rfl, SqL.of (by rw [upd_same, tI_ints]), fun ns' p6 hpm hsr np6 => ?_⟩⟩
        obtain ⟨ms, rfl, hms⟩ := ints_perm hpm
        rw [← tI_ints]
        have hms2 : ms.Pairwise (· < ·) := nd_asc (by rw [List.pairwise_map] at hsr; exact hsr.imp fun {a b} h => by omega) (hms.nodup_iff.mpr hRA.nd)
        refine ⟨p6, _, rfl, .inl ⟨SqL.of upd_same, fun p7 np7 => ?_⟩⟩
        have s47 : Same H4 (upd (upd (upd H4 p5 (.lst (tI ns))) p6 (.lst (tI ms))) p7 (.tup (tI ms))) := (same_upd np5).trans ((same_upd np6).trans (same_upd np7))
        refine ⟨_, rfl, p7, D, ms, fsts l, rfl, .inl upd_same, s47 _ _ hD4, fun e => by have h := hms.length_eq; rw [e] at h; simp only [List.length_nil] at h; omega, by rw [hms.length_eq]; omega, fun s hs => ?_, hms2, fun H8 s8 => ⟨true, rfl, iteF ?_⟩⟩
        · have h1 := hms.mem_iff.mp hs
          have := hlt s h1
          exact ⟨hin s h1, by omega⟩
        have s08 := s04.trans (s47.trans s8)
        have ha8 := ha.same s08
        refine ⟨_, rfl, a, _, rfl, .inr ha8.sq, ns.length, by rw [tI_len]; rfl, hnl, hRA.pr, fun H9 s9 => ⟨true, rfl, iteF ?_⟩⟩
        have s09 := s08.trans s9
        have ha9 := ha.same s09
        refine ⟨_, rfl, a, _, rfl, .inr ha9.sq, _, rfl, vp, tI ps, rfl, .inl (SqL.of (s09 _ _ hvp)), rfl, tI_flat _, _, rfl, ?_⟩
        rw [tI_len, inV_tI, decide_eq_false hRA.no]
        refine iteF ?_
        -- [go(goals, signs, one, text) for one in states] == list(states[1:] + states[:1])
        refine ⟨_, rfl, a, rfl, ⟨_, ha9.sq⟩, fun D3 nD3 => ?_⟩
        refine lc_vals (fun i => V.int ((M.run (ns.getD i 0) wd : Nat) : Int)) (wk_tup ha9.sq) nD3 (by rw [tI_len]; omega) (fun i σ2 _ => ∃ x : Nat, ns[i]? = some x ∧ σ2 = [some (.ref b), some (.str (al M)), some (.int (M.s0 : Int)), some (.str (txt wd)), some (.ref a), some (.ref vp), some (.ref D), none, none, some (.int (x : Int))]) (fun i x H' Q' hi sm hx kk => ?_) ?_ ?_
        · obtain ⟨y, hy, rfl⟩ := tI_get hx
          exact kk _ rfl ⟨y, hy, rfl⟩
        · rintro i σ2 H' hi sm ⟨x, hx, rfl⟩ Q' q'
          have s0' := s09.trans sm
          refine ⟨_, rfl, _, rfl, _, rfl, _, rfl, b, vrs, M, x, wd, rfl, ok, s0' _ _ hb, htl.same s0', hlt x (List.mem_of_getElem? hx), hRA.wdk, hRA.wl, fun H'' s'' => q' _ _ s'' ?_⟩
          rw [getD_of hx]
        · intro H10 s10 hD10
          rw [tI_len, vals_of (fun s => M.run s wd)] at hD10
          have s010 := s09.trans s10
          have ha10 := ha.same s010
          have hlo : HT.sIx (tI ns).length 0 (some 1) = 1 := by
            rw [show (some (1 : Int)) = some ((1 : Nat) : Int) from rfl, HT.sIx_nat, tI_len]
            omega
          have hlo2 : HT.sIx (tI ns).length (tI ns).length (some 1) = 1 := by
            rw [show (some (1 : Int)) = some ((1 : Nat) : Int) from rfl, HT.sIx_nat, tI_len]
            omega
          have hcut : cutV (tI ns) (some 1) none = tI (ns.drop 1) := by
            unfold cutV
            rw [hlo, HT.sIx_none, List.take_of_length_le (by rw [List.length_drop]; exact Nat.le_refl _)]
            unfold tI
            rw [List.map_drop]
          have hcut2 : cutV (tI ns) none (some 1) = tI (ns.take 1) := by
            unfold cutV
            rw [hlo2, HT.sIx_none]
            unfold tI
            rw [List.map_take]
            rfl
          refine ⟨_, rfl, 1, rfl, a, tI ns, rfl, ha10.sq, (fun z => by rw [hlo] at z; omega), fun p8 np8 => ?_⟩
          rw [hcut]
          have s8' : Same H10 (upd H10 p8 (.tup (tI (ns.drop 1)))) := same_upd np8
          refine ⟨_, rfl, 1, rfl, a, tI ns, rfl, (ha10.same s8').sq, (fun z => by rw [hlo2, tI_len] at z; omega), fun p9 np9 => ?_⟩
          rw [hcut2]
          have s9' : Same (upd H10 p8 (.tup (tI (ns.drop 1)))) (upd (upd H10 p8 (.tup (tI (ns.drop 1)))) p9 (.tup (tI (ns.take 1)))) := same_upd np9
          refine ⟨p8, p9, tI (ns.drop 1), tI (ns.take 1), rfl, rfl, SqT.of (s9' _ _ upd_same), SqT.of upd_same, fun e => ?_, szl (by rw [tI_len, tI_len, List.length_drop, List.length_take]; omega), fun e => ?_, fun _ p10 np10 => ?_⟩
          · have h := congrArg List.length e
            rw [tI_len, List.length_drop] at h
            simp only [List.length_nil] at h
            omega
          · have h := congrArg List.length e
            rw [tI_len, List.length_take] at h
            simp only [List.length_nil] at h
            omega
          have e9 : tI (ns.drop 1) ++ tI (ns.take 1) = tI (ns.drop 1 ++ ns.take 1) := by
            unfold tI
            rw [List.map_append]
          have s11 : Same H10 (upd (upd (upd H10 p8 (.tup (tI (ns.drop 1)))) p9 (.tup (tI (ns.take 1)))) p10 (.tup (tI (ns.drop 1) ++ tI (ns.take 1)))) := s8'.trans (s9'.trans (same_upd np10))
          refine ⟨p10, _, rfl, .inr (SqT.of upd_same), fun p11 np11 => ?_⟩
          refine eqd_L (SqL.of (same_upd np11 _ _ (s11 _ _ hD10))) (SqL.of (by rw [upd_same, e9])) ?_
          rw [decide_eq_true hRA.rot]
          exact q _ (s010.trans (s11.trans (same_upd np11)))
end
end Kn
/-! H8 -/
set_option maxHeartbeats 2000000
namespace Kn
open PySem PySem.Spec PyProof.Rows L2
theorem sc__law_knot_right : FnScope ["_law_goals", "_law_signs", "_law_begin", "_law_states", "_law_texts_z", "_law_products_z", "_law_some", "_law_rows", "_law_makers", "_law_at", "_law_late", "_law_text", "_law_one", "_law_row", "_law_pairs"] ["_law_goals", "_law_signs", "_law_begin", "_law_states", "_law_texts_z", "_law_products_z"] (defScope s__law_knot_right) := ⟨rfl, rfl, rfl, by decide +kernel, rfl, by decide +kernel, by decide +kernel⟩
theorem ned_L {K : Fr} {H : Hp} {Q : VK} {a b : Addr} {xs ys : List Nat} (ha : SqL K H a (tI xs)) (hb : SqL K H b (tI ys)) (q : Q (.bl (!decide (xs = ys))) H) : rNeD K (.ref a) (.ref b) H Q :=
  ⟨_, _, dp_lI ha, dp_lI hb, shaped_lI _, shaped_lI _, by rw [eqv_lI]; exact q⟩
theorem dpAll_rows {K : Fr} {H : Hp} : ∀ (vs : List V) (rows : List (List Nat)), TL H vs rows → DpAll K H vs (rows.map dI)
  | [], [], _ => .nil
  | v :: vs, [], h => by cases h.1
  | [], r :: rows, h => by cases h.1
  | v :: vs, r :: rows, h => by
    obtain ⟨r', h1, a, rfl, ha⟩ := h.2 0 v rfl
    cases h1
    exact .cons (dp_tI (SqT.of ha)) (dpAll_rows vs rows ⟨by have := h.1; simp only [List.length_cons] at this; omega, fun i u e => h.2 (i + 1) u e⟩)
theorem lay_rows : ∀ rows : List (List Nat), PyData.canLayAll0 (rows.map dI) = true
  | [] => by simp [PyData.canLayAll0]
  | r :: rows => by
    show PyData.canLayAll0 (dI r :: rows.map dI) = true
    rw [PyData.canLayAll0, lay_rows rows]
    have h := (Bool.and_eq_true_iff.mp (shaped_dI r)).1
    rw [h]
    rfl
theorem depth_rows : ∀ rows : List (List Nat), PyData.depthAll (rows.map dI) ≤ 1
  | [] => by simp [PyData.depthAll]
  | r :: rows => by
    show PyData.depthAll (dI r :: rows.map dI) ≤ 1
    rw [PyData.depthAll, depth_dI]
    have := depth_rows rows
    omega
theorem shaped_rows (rows : List (List Nat)) : SeqAt.shaped (.list (rows.map dI)) = true := by
  unfold SeqAt.shaped
  rw [PyData.depth, PyData.canLay0, lay_rows]
  have := depth_rows rows
  rw [Bool.true_and]
  exact decide_eq_true (by omega)
theorem eqv_rows_nil {rows : List (List Nat)} (h : rows ≠ []) : PyData.eqv (.list (rows.map dI)) (.list (([] : List Nat).map fun n : Nat => PyData.int (n : Int))) = false := by
  cases rows with
  | nil => exact absurd rfl h
  | cons r rows =>
    rw [PyData.eqv]
    show PyData.eqvAll (dI r :: rows.map dI) [] = false
    simp [PyData.eqvAll]
/-- rows == [], there are some -/
theorem eqd_rows {K : Fr} {H : Hp} {Q : VK} {a b : Addr} {vs : List V} {rows : List (List Nat)} (ha : SqL K H a vs) (htl : TL H vs rows) (hne : rows ≠ []) (hb : SqL K H b (tI [])) (q : Q (.bl false) H) : rEqD K (.ref a) (.ref b) H Q :=
  ⟨_, _, .lst ha (dpAll_rows vs rows htl), dp_lI hb, shaped_rows _, shaped_lI _, by rw [eqv_rows_nil hne]; exact q⟩
def sp_lknot : Sp := fun vs H Q _ => ∃ (b a : Addr) (o : Obj) (vw vp : V) (M : Mc) (vrs : List V) (ss rs : List Nat) (ws : List (List Nat)) (ps : Prs), vs = [.ref b, .str (al M), .int (M.s0 : Int), .ref a, vw, vp] ∧ M.Ok ∧ H b = some (.lst vrs) ∧ TL H vrs M.rows ∧ H a = some (.frz o (.tup (tI ss))) ∧ o.dict = none ∧
  TupOf StrV H vw ws ∧ PrV H vp ps ∧ KnotA M ss ws ps ∧ Rch M rs ∧ rs.length ≤ 6 ∧ ss.Sublist rs ∧ ss ≠ [] ∧ ∀ H', Same H H' → Q (.bl true) H'
section
variable {P : Program} {w : World} {K : Fr} {mg : Str → Option Value} {base : Heap} {fd : FuncData} {f CM : Addr}
theorem ok_lknot (F0 : FnP K "_law_knot_right" s__law_knot_right f fd) (T : Bt mg) (F__law_reach : Fo P w K mg base "_law_reach" ["_law_goals", "_law_signs", "_law_at"] 1 sp_lreach) (F__law_is_over : Fo P w K mg base "_law_is_over" ["_law_signs", "_law_value"] 1 sp_isw)
    (F__law_is_states : Fo P w K mg base "_law_is_states" ["_law_value", "_law_some"] 2 sp_lstates) (F__law_go : Fo P w K mg base "_law_go" ["_law_goals", "_law_signs", "_law_at", "_law_text"] 1 sp_lgo) (F__law_places : Fo P w K mg base "_law_places" ["_law_states", "_law_rows"] 1 sp_lplaces)
    (F__law_product_told : Fo P w K mg base "_law_product_told" ["_law_makers", "_law_pairs"] 3 sp_prodof) :
    FnOk P w K mg base CX0 4 f fd ["_law_goals", "_law_signs", "_law_begin", "_law_states", "_law_texts_z", "_law_products_z"] sp_lknot := by
  refine F0.ok sc__law_knot_right (fun vs H Q E h => ?_) (fun cdv A outer s H vs Q E hr h => ?_)
  · obtain ⟨b, a, o, vw, vp, M, vrs, ss, rs, ws, ps, rfl, _⟩ := h
    rfl
  · obtain ⟨b, a, o, vw, vp, M, vrs, ss, rs, ws, ps, rfl, ok, hb, htl, ha, hdn, hw, hp, hka, hR, h6, hsub, hne, q⟩ := h
    refine ⟨_, PSs.nox (pss_cons (ps_setLc (i := 6) (own := [("_law_at", 9), ("_law_late", 10)]) (g := gTup K 2 (gCons (gName 9) (gCons (gName 10) gNil))) (tt := tYes) rfl sc__law_knot_right.nd rfl rfl (sw_true rfl rfl rfl (by decide +kernel)) (piL K (pc F__law_reach hr (by rfl) (pa_cons (pv 0) (pa_cons (pv 1) (pa_cons (pv 2) pa_nil)))))
  (blkOk_by (N := ["_law_goals", "_law_signs", "_law_begin", "_law_states", "_law_texts_z", "_law_products_z", "_law_some", "_law_rows", "_law_makers", "_law_at", "_law_late", "_law_text", "_law_one", "_law_row", "_law_pairs"]) (sc := defScope s__law_knot_right) (by decide +kernel)) (fun _ _ _ _ _ => (pg_tupK K rfl (pgs_cons (pg_name (i := 9) sc__law_knot_right.nd rfl (Or.inl rfl)) (pgs_cons (pg_name (i := 10) sc__law_knot_right.nd rfl (Or.inl rfl)) pgs_nil)))) (fun _ _ _ _ _ => pts_nil) (fun _ _ _ _ _ => (pv 9)))
  (pss_cons (ps_if (PW.pt (pw_or (pt_not (pt_val (pc F__law_is_states hr (by rfl) (pa_cons (pv 3) (pa_cons (pv 6) pa_nil))))) (pw_or1 (pt_not (pt_val (pe_callB (callIsi K) (by rfl) T.isinstance (by decide +kernel) (pa_cons (pv 4) (pa_cons (pe_bltn (v := .ty "tuple") (by rfl) T.tuple (by decide +kernel) rfl) pa_nil)))))))) (pss_one (ps_ret pe_bl)) pss_nil)
  (pss_cons (ps_if (pt_not (pt_val (pe_callB (crAll K) (by rfl) T.all (by decide +kernel) (pa_cons (pe_lc (own := [("_law_text", 11)]) (g := gName 11) (tt := tYes) rfl sc__law_knot_right.nd (piT K (pv 4))
  (blkOk_by (N := ["_law_goals", "_law_signs", "_law_begin", "_law_states", "_law_texts_z", "_law_products_z", "_law_some", "_law_rows", "_law_makers", "_law_at", "_law_late", "_law_text", "_law_one", "_law_row", "_law_pairs"]) (sc := defScope s__law_knot_right) (by decide +kernel)) (fun _ _ _ _ _ => pg_name (i := 11) sc__law_knot_right.nd rfl (by first | exact Or.inl rfl | exact Or.inr rfl)) (fun _ _ _ _ _ => pts_nil) (fun _ _ _ _ _ => (pc F__law_is_over hr (by rfl) (pa_cons (pv 1) (pa_cons (pv 11) pa_nil))))) pa_nil)))) (pss_one (ps_ret pe_bl)) pss_nil)
  (pss_cons (ps_setLc (i := 7) (own := [("_law_text", 11)]) (g := gName 11) (tt := tYes) rfl sc__law_knot_right.nd rfl rfl (sw_true rfl rfl rfl (by decide +kernel)) (piT K (pv 4))
  (blkOk_by (N := ["_law_goals", "_law_signs", "_law_begin", "_law_states", "_law_texts_z", "_law_products_z", "_law_some", "_law_rows", "_law_makers", "_law_at", "_law_late", "_law_text", "_law_one", "_law_row", "_law_pairs"]) (sc := defScope s__law_knot_right) (by decide +kernel)) (fun _ _ _ _ _ => pg_name (i := 11) sc__law_knot_right.nd rfl (by first | exact Or.inl rfl | exact Or.inr rfl)) (fun _ _ _ _ _ => pts_nil) (fun _ _ _ _ _ => (pe_callTy (callTupOf K) (by rfl) T.tuple (by decide +kernel) (pa_cons (pe_lc (own := [("_law_one", 12)]) (g := gName 12) (tt := tYes) rfl sc__law_knot_right.nd (piT K (pv 3))
  (blkOk_by (N := ["_law_goals", "_law_signs", "_law_begin", "_law_states", "_law_texts_z", "_law_products_z", "_law_some", "_law_rows", "_law_makers", "_law_at", "_law_late", "_law_text", "_law_one", "_law_row", "_law_pairs"]) (sc := ({ kind := .function, names := [(".0", .local), ("_law_text", .cell), ("tuple", .globalImplicit), ("_law_goals", .cell), ("_law_signs", .cell), ("_law_states", .cell)], isGenerator := false, isCoroutine := false } : Scope)) (by decide +kernel)) (fun _ _ _ _ _ => pg_name (i := 12) sc__law_knot_right.nd rfl (by first | exact Or.inl rfl | exact Or.inr rfl)) (fun _ _ _ _ _ => pts_nil) (fun _ _ _ _ _ => (pc F__law_go hr (by rfl) (pa_cons (pv 0) (pa_cons (pv 1) (pa_cons (pv 12) (pa_cons (pv 11) pa_nil))))))) pa_nil))))
  (pss_cons (ps_if (PW.pt (pw_or (pt_cmpR (opNeD K hr.units) (pe_lc (own := [("_law_row", 13)]) (g := gName 13) rfl sc__law_knot_right.nd (piL K (pv 7))
  (blkOk_by (N := ["_law_goals", "_law_signs", "_law_begin", "_law_states", "_law_texts_z", "_law_products_z", "_law_some", "_law_rows", "_law_makers", "_law_at", "_law_late", "_law_text", "_law_one", "_law_row", "_law_pairs"]) (sc := defScope s__law_knot_right) (by decide +kernel)) (fun _ _ _ _ _ => pg_name (i := 13) sc__law_knot_right.nd rfl (Or.inl rfl)) (fun _ _ _ _ _ => (pts_one (pt_cmpR (opNeD K hr.units) (pe_callTy (callTupOf K) (by rfl) T.tuple (by decide +kernel) (pa_cons (pe_callB (crSortedI K) (by rfl) T.sorted PyProof.Rows.Boot.«sorted» (pa_cons (pe_callTy (callListOf K) (by rfl) T.list (by decide +kernel) (pa_cons (pv 13) pa_nil)) pa_nil)) pa_nil)) (pv 3) (nomark _)))) (fun _ _ _ _ _ => (pv 13))) (pe_lst pa_nil) (nomark _)) (pw_or1 (pt_cmpR (opEqD K hr.units) (pe_lc (own := [("_law_row", 13)]) (g := gName 13) rfl sc__law_knot_right.nd (piL K (pv 7))
  (blkOk_by (N := ["_law_goals", "_law_signs", "_law_begin", "_law_states", "_law_texts_z", "_law_products_z", "_law_some", "_law_rows", "_law_makers", "_law_at", "_law_late", "_law_text", "_law_one", "_law_row", "_law_pairs"]) (sc := defScope s__law_knot_right) (by decide +kernel)) (fun _ _ _ _ _ => pg_name (i := 13) sc__law_knot_right.nd rfl (Or.inl rfl)) (fun _ _ _ _ _ => (pts_one (pt_cmpR (opNeD K hr.units) (pv 13) (pv 3) (nomark _)))) (fun _ _ _ _ _ => (pv 13))) (pe_lst pa_nil) (nomark _))))) (pss_one (ps_ret pe_bl)) pss_nil)
  (pss_cons (ps_set (i := 8) sc__law_knot_right.nd rfl (by first | exact Or.inr rfl | exact Or.inl rfl) (pc F__law_places hr (by rfl) (pa_cons (pv 3) (pa_cons (pv 7) pa_nil))))
  (pss_cons (ps_if (PW.pt (pw_or (pt_not (pt_val (pe_callB (callIsi K) (by rfl) T.isinstance (by decide +kernel) (pa_cons (pv 5) (pa_cons (pe_bltn (v := .ty "tuple") (by rfl) T.tuple (by decide +kernel) rfl) pa_nil))))) (pw_or1 (pt_cmpR op_ne (pe_callB (callLenSeq K) (by rfl) T.len PySem.boot_len (pa_cons (pv 5) pa_nil)) (pe_callB (callLenSeq K) (by rfl) T.len PySem.boot_len (pa_cons (pv 8) pa_nil)) (nomark _))))) (pss_one (ps_ret pe_bl)) pss_nil)
  (pss_one (ps_ret (pe_callB (crAll K) (by rfl) T.all (by decide +kernel) (pa_cons (pe_lc (own := [("_law_pairs", 14), ("_law_one", 12)]) (g := gTup K 2 (gCons (gName 14) (gCons (gName 12) gNil))) (tt := tYes) rfl sc__law_knot_right.nd (pi_zipG (by rfl) T.zip (pa_cons (pv 5) (pa_cons (pv 8) pa_nil)))
  (blkOk_by (N := ["_law_goals", "_law_signs", "_law_begin", "_law_states", "_law_texts_z", "_law_products_z", "_law_some", "_law_rows", "_law_makers", "_law_at", "_law_late", "_law_text", "_law_one", "_law_row", "_law_pairs"]) (sc := defScope s__law_knot_right) (by decide +kernel)) (fun _ _ _ _ _ => (pg_tupK K rfl (pgs_cons (pg_name (i := 14) sc__law_knot_right.nd rfl (Or.inl rfl)) (pgs_cons (pg_name (i := 12) sc__law_knot_right.nd rfl (by first | exact Or.inr rfl | exact Or.inl rfl)) pgs_nil)))) (fun _ _ _ _ _ => pts_nil) (fun _ _ _ _ _ => (pe_cmpR (opEqD K hr.units) (pc F__law_product_told hr (by rfl) (pa_cons (pv 8) (pa_cons (pv 14) pa_nil))) (pv 12) (nomark _)))) pa_nil))))))))))), ?_⟩
    have hk3 := ok.k3
    have hn8 := ok.n8
    have hss6 : ss.length ≤ 6 := Nat.le_trans hsub.length_le h6
    have hasc : ss.Pairwise (· < ·) := hR.asc.sublist hsub
    have hnd : ss.Nodup := hasc.imp fun {a b} h => by omega
    have hfew := hka.few
    have hlt : ∀ s ∈ ss, s < M.rows.length := fun s hs => hR.rc.lt s (hsub.subset hs)
    obtain ⟨aw, us, rfl, haw, husl, hus⟩ := id hw
    have ard : ∀ {H' : Hp}, Same H H' → Rd H' a (.tup (tI ss)) := fun s => .inr ⟨o, s _ _ ha⟩
    -- some
    refine ⟨_, rfl, _, rfl, _, rfl, b, M, vrs, rfl, ok, hb, htl, fun H1 c vps l nc s1 hc hPL hl8 hR1 => ⟨c, rfl, ⟨_, SqL.of hc⟩, fun D nD => ?_⟩⟩
    have hin : ∀ s ∈ ss, s ∈ fsts l := fun s hs => hR.rc.sub hR1 s (hsub.subset hs)
    refine lc_vals (fun j => V.int (((fsts l).getD j 0 : Nat) : Int)) (wk_lst (K := K) (SqL.of hc)) nD (by rw [hPL.1]; omega) (fun j σ2 _ => ∃ p, l[j]? = some p ∧ σ2 = [some (.ref b), some (.str (al M)), some (.int (M.s0 : Int)), some (.ref a), some (.ref aw), some vp, none, none, none, some (.int ((p.1 : Nat) : Int)), some (.str (txt p.2)), none, none, none, none]) ?_ ?_ ?_
    · rintro j y H' Q' hj sm hy kk
      obtain ⟨p, ap, h1, rfl, h3⟩ := hPL.2 j y hy
      exact ⟨ap, _, rfl, SqT.of (sm _ _ h3), rfl, _, _, rfl, _, _, rfl, rfl, kk _ rfl ⟨p, h1, rfl⟩⟩
    · rintro j σ2 H' hj sm ⟨p, h1, rfl⟩ Q' q'
      refine ⟨_, rfl, q' _ _ (Same.refl _) ?_⟩
      rw [fsts_get h1]
    · intro H2 s2 hD2
      rw [hPL.1, fsts_vals] at hD2
      have s02 := s1.trans s2
      refine ⟨_, rfl, _, rfl, a, D, ss, fsts l, rfl, ard s02, hD2, hne, by omega, fun s hs => ⟨hin s hs, by have := hlt s hs; omega⟩, hasc, fun H3 s3 => ⟨true, rfl, iteF ?_⟩⟩
      have s03 := s02.trans s3
      refine ⟨_, rfl, _, _, _, _, _, rfl, .ty _, tyT (s03 _ _ haw), kit_ty k_tt, true, rfl, iteF ?_⟩
      -- all texts are over the signs
      refine ⟨_, rfl, aw, rfl, ⟨_, SqT.of (s03 _ _ haw)⟩, fun D2 nD2 => ?_⟩
      refine lc_bools (fun _ => true) (wk_tup (K := K) (SqT.of (s03 _ _ haw))) nD2 (by omega) (fun i σ2 _ => ∃ w', w' ∈ ws ∧ σ2 = [some (.ref b), some (.str (al M)), some (.int (M.s0 : Int)), some (.ref a), some (.ref aw), some vp, some (.ref D), none, none, none, none, some (.str (txt w')), none, none, none]) (fun i x H' Q' hi sm hx kk => ?_) ?_ ?_
      · obtain ⟨w', h1, h2⟩ := hus i x hx
        have h2 : x = .str (txt w') := h2
        subst h2
        exact kk _ rfl ⟨w', List.mem_of_getElem? h1, rfl⟩
      · rintro i σ2 H' hi sm ⟨w', hw', rfl⟩ Q' q'
        obtain ⟨k1, k2, _⟩ := hka.ok w' hw'
        exact ⟨_, rfl, _, rfl, M.k, w', rfl, by omega, k1, by omega, fun H2 s2 => q' _ _ s2 rfl⟩
      · intro H4 s4 hl4
        refine ⟨D2, _, rfl, SqL.of hl4, ?_⟩
        rw [all_true]
        refine ⟨true, rfl, iteF ?_⟩
        have s04 := s03.trans s4
        -- rows
        refine ⟨_, rfl, aw, rfl, ⟨_, SqT.of (s04 _ _ haw)⟩, fun D3 nD3 => ?_⟩
        refine lc_map (wk_tup (K := K) (SqT.of (s04 _ _ haw))) nD3 (by omega) (fun i σ2 H' => ∃ w', ws[i]? = some w' ∧ σ2 = [some (.ref b), some (.str (al M)), some (.int (M.s0 : Int)), some (.ref a), some (.ref aw), some vp, some (.ref D), none, none, none, none, some (.str (txt w')), none, none, none]) (fun i y H' => ∃ w', ws[i]? = some w' ∧ Tup H' y (rowOf M ss w')) ?_ ?_ ?_ ?_
        · rintro i y Ha Hb _ t ⟨w', h1, h2⟩
          exact ⟨w', h1, h2.tame t⟩
        · rintro i y H' Q' hi sm hy kk
          obtain ⟨w', h1, h2⟩ := hus i y hy
          have h2 : y = .str (txt w') := h2
          subst h2
          exact kk _ rfl ⟨w', h1, rfl⟩
        · rintro i σ2 H' hi sm ⟨w', h1, rfl⟩ Q' q'
          obtain ⟨k1, k2, k3, k4⟩ := hka.ok w' (List.mem_of_getElem? h1)
          have s0' := s04.trans sm
          refine ⟨_, rfl, a, rfl, ⟨_, (ard s0').sq⟩, fun D4 nD4 => ?_⟩
          refine lc_vals (fun i => V.int ((M.run (ss.getD i 0) w' : Nat) : Int)) (wk_tup (ard s0').sq) nD4 (by rw [tI_len]; omega) (fun i σ3 _ => ∃ x : Nat, ss[i]? = some x ∧ σ3 = [some (.ref b), some (.str (al M)), some (.int (M.s0 : Int)), some (.ref a), some (.ref aw), some vp, some (.ref D), none, none, none, none, some (.str (txt w')), some (.int (x : Int)), none, none]) (fun i x H'' Q'' hi sm'' hx kk => ?_) ?_ ?_
          · obtain ⟨y, hy, rfl⟩ := tI_get hx
            exact kk _ rfl ⟨y, hy, rfl⟩
          · rintro i σ3 H'' hi sm'' ⟨x, hx, rfl⟩ Q2 q2
            have s0'' := s0'.trans sm''
            refine ⟨_, rfl, _, rfl, _, rfl, _, rfl, b, vrs, M, x, w', rfl, ok, s0'' _ _ hb, htl.same s0'', hlt x (List.mem_of_getElem? hx), k1, by omega, fun H5 s5 => q2 _ _ s5 ?_⟩
            rw [getD_of hx]
          · intro H5 s5 hD5
            rw [tI_len, vals_of (fun s => M.run s w')] at hD5
            exact ⟨D4, _, rfl, .inl ⟨SqL.of hD5, fun p np => q' _ _ (s5.trans (same_upd np)) ⟨w', h1, p, rfl, upd_same⟩⟩⟩
        · intro zs H5 s5 hD5 hzl hzr
          have s05 := s04.trans s5
          have hzl' : zs.length = ws.length := by rw [hzl, husl]
          have hrows : ∀ w' ∈ ws, rowOf M ss w' ≠ ss := fun w' hw' e => (hka.ok w' hw').2.2.2 (by
            have := mk_nil (M := M) hnd
            rw [← this]
            unfold mk
            rw [e]
            show _ = (rowOf M ss []).map _
            have e2 : rowOf M ss [] = ss := List.map_id' ss
            rw [e2])
          have htlz : TL H5 zs (ws.map (rowOf M ss)) := ⟨by rw [List.length_map, hzl'], fun i y e => by
            obtain ⟨w', h1, h2⟩ := hzr i y e
            exact ⟨rowOf M ss w', by rw [List.getElem?_map, h1]; rfl, h2⟩⟩
          -- no row is no turn
          refine ⟨_, rfl, D3, rfl, ⟨_, SqL.of hD5⟩, fun D5 nD5 => ?_⟩
          refine lc_wk (wk_lst (K := K) (SqL.of hD5)) (fun i H' => Same H5 H' ∧ H' D5 = some (.lst [])) ⟨same_upd nD5, upd_same⟩ (fun i H' h => h.1) ?_ ?_
          · rintro i y Ha Hb hi ⟨sa, hDa⟩ sab hy
            obtain ⟨w', h1, ar, rfl, har⟩ := hzr i y hy
            have hP := (hka.ok w' (List.mem_of_getElem? h1)).2.2.1
            have s5b := sa.trans sab
            have har' := s5b _ _ har
            refine ⟨rfl, ?_⟩
            refine ⟨_, rfl, ar, _, rfl, .inr (SqT.of har'), fun p5 np5 => ⟨p5, (rowOf M ss w').map (fun n : Nat => (n : Int)), rfl, SqL.of (by rw [upd_same, tI_ints]), fun ns' p6 hpm hsr np6 => ?_⟩⟩
            obtain ⟨ms, rfl, hms⟩ := ints_perm hpm
            rw [← tI_ints]
            refine ⟨p6, _, rfl, .inl ⟨SqL.of upd_same, fun p7 np7 => ?_⟩⟩
            have s67 : Same Hb (upd (upd (upd Hb p5 (.lst (tI (rowOf M ss w')))) p6 (.lst (tI ms))) p7 (.tup (tI ms))) := (same_upd np5).trans ((same_upd np6).trans (same_upd np7))
            have hms2 : ms.Pairwise (· ≤ ·) := by rw [List.pairwise_map] at hsr; exact hsr.imp fun {a b} h => by omega
            have hms3 : ms = ss := (perm_asc hms hms2 hasc).mpr hP
            refine ⟨_, rfl, ned_T (SqT.of upd_same) (ard ((s05.trans s5b).trans s67)).sq ⟨_, rfl, ?_⟩⟩
            rw [decide_eq_true hms3]
            exact iteF ⟨s5b.trans s67, s67 _ _ (sab _ _ hDa)⟩
          · rintro H6 ⟨s6, hD6⟩
            refine ⟨szl (by show 0 ≤ 1000000; decide), fun l6 nl6 => ned_L (xs := []) (ys := []) (SqL.of (same_upd nl6 _ _ hD6)) (SqL.of upd_same) ⟨_, rfl, ?_⟩⟩
            rw [decide_eq_true rfl]
            refine iteF ?_
            have s57 : Same H5 (upd H6 l6 (.lst [])) := s6.trans (same_upd nl6)
            generalize upd H6 l6 (.lst []) = H7 at s57
            have hD7 := s57 _ _ hD5
            -- some row is not still
            refine ⟨_, rfl, D3, rfl, ⟨_, SqL.of hD7⟩, fun D6 nD6 => ?_⟩
            refine lc_wk (wk_lst (K := K) (SqL.of hD7)) (fun i H' => Same H7 H' ∧ H' D6 = some (.lst (zs.take i)) ∧ i ≤ zs.length) ⟨same_upd nD6, upd_same, Nat.zero_le _⟩ (fun i H' h => h.1) ?_ ?_
            · rintro i y Ha Hb hi ⟨sa, hDa, _⟩ sab hy
              obtain ⟨w', h1, ar, rfl, har⟩ := hzr i y hy
              have s7b := sa.trans sab
              have s5b := s57.trans s7b
              refine ⟨rfl, ?_⟩
              refine ⟨_, rfl, _, rfl, ned_T (SqT.of (s5b _ _ har)) (ard (s05.trans s5b)).sq ⟨_, rfl, ?_⟩⟩
              rw [decide_eq_false (hrows w' (List.mem_of_getElem? h1))]
              refine iteT ⟨_, rfl, zs.take i, sab _ _ hDa, szl' (by rw [List.length_take]; omega), s7b.upd' nD6, ?_, hi⟩
              rw [upd_same, List.take_succ, hy]
              rfl
            · rintro H8 ⟨s8, hD8, _⟩
              rw [List.take_length] at hD8
              have s58 := s57.trans s8
              refine ⟨szl (by show 0 ≤ 1000000; decide), fun l9 nl9 => eqd_rows (SqL.of (same_upd nl9 _ _ hD8)) (htlz.same (s58.trans (same_upd nl9))) (fun e => hka.ne (List.map_eq_nil_iff.mp e)) (SqL.of upd_same) ⟨_, rfl, iteF ?_⟩⟩
              have s59 : Same H5 (upd H8 l9 (.lst [])) := s58.trans (same_upd nl9)
              generalize upd H8 l9 (.lst []) = H9 at s59
              have s09 := s05.trans s59
              -- makers
              refine ⟨_, rfl, _, rfl, .ref a, D3, ss, zs, ws.map (rowOf M ss), rfl, ⟨a, o, rfl, s09 _ _ ha, hdn⟩, s59 _ _ hD5, htlz.same s59, by rw [List.length_map]; omega, fun r hr' => ?_, fun H10 D7 vms nD7 s10 hD7' htm => ?_⟩
              · obtain ⟨w', h1, rfl⟩ := List.mem_map.mp hr'
                have hP := (hka.ok w' h1).2.2.1
                exact ⟨by rw [hP.length_eq]; omega, fun s hs => hP.mem_iff.mp hs⟩
              have htm : TL H10 vms (ws.map (mk M ss)) := by
                rw [List.map_map] at htm
                exact htm
              have s010 := s09.trans s10
              obtain ⟨hpz, ap, ups, rfl, hap, hupl, hups⟩ := stab_pr _ _ _ _ (Tame.of s010) hp
              have hml : vms.length = ws.length := by rw [htm.1, List.length_map]
              have hmP : ∀ m ∈ ws.map (mk M ss), IsP ss.length m := fun m hm => by
                obtain ⟨w', h1, rfl⟩ := List.mem_map.mp hm
                exact mk_isP hnd (hka.ok w' h1).2.2.1
              have hmne : ws.map (mk M ss) ≠ [] := fun e => hka.ne (List.map_eq_nil_iff.mp e)
              refine ⟨_, rfl, _, _, _, _, _, rfl, .ty _, tyT hap, kit_ty k_tt, true, rfl, iteF ?_⟩
              refine ⟨_, rfl, ap, _, rfl, .inr (SqT.of hap), _, rfl, D7, _, rfl, .inl (SqL.of hD7'), rfl, _, rfl, ?_⟩
              have el : decide (V.int (ups.length : Int) = V.int (vms.length : Int)) = true := decide_eq_true (by rw [hupl, hka.len, hml])
              rw [el]
              refine iteF ?_
              refine ⟨_, rfl, _, rfl, _, _, _, _, _, _, rfl, .tup ap ups, .lst D7 vms, hap, hD7', fun D8 nD8 => ?_⟩
              have W := wk_zip (H0 := H10) (.tup ap ups) (.lst D7 vms) hap hD7'
              refine lc_bools (fun _ => true) W nD8 (by omega) (fun i σ2 H' => ∃ pv am' w' prs, ws[i]? = some w' ∧ ps[i]? = some prs ∧ BTup PaV H' pv prs ∧ H' am' = some (.tup (tI (mk M ss w'))) ∧ Same H10 H' ∧ σ2 = [some (.ref b), some (.str (al M)), some (.int (M.s0 : Int)), some (.ref a), some (.ref aw), some (.ref ap), some (.ref D), some (.ref D3), some (.ref D7), none, none, none, some (.ref am'), none, some pv]) ?_ ?_ ?_
              · rintro i y H' Q' hi sm ⟨T2, x1, y1, rfl, hT2, h1, h2⟩ kk
                obtain ⟨prs, hp1, hp2⟩ := hups i x1 h1
                obtain ⟨m, hm, am', rfl, ham'⟩ := htm.2 i y1 h2
                obtain ⟨w', hw1, rfl⟩ : ∃ w', ws[i]? = some w' ∧ m = mk M ss w' := by
                  rw [List.getElem?_map] at hm
                  cases e : ws[i]? with
                  | none => rw [e] at hm; cases hm
                  | some w' => rw [e] at hm; exact ⟨w', rfl, (Option.some.inj hm).symm⟩
                exact ⟨T2, _, rfl, SqT.of hT2, rfl, _, _, rfl, _, _, rfl, rfl, kk _ rfl ⟨x1, am', w', prs, hw1, hp1, stab_pa.btup _ _ _ _ (Tame.of sm) hp2, sm _ _ ham', sm, rfl⟩⟩
              · rintro i σ2 H' hi sm ⟨pv, am', w', prs, hw1, hp1, hp2, ham', sm', rfl⟩ Q' q'
                obtain ⟨g1, g2⟩ := hka.pr i prs w' hp1 hw1
                refine ⟨_, rfl, _, rfl, D7, pv, vms, ws.map (mk M ss), ss.length, prs, rfl, sm' _ _ hD7', htm.same sm', hmne, hmP, hss6, hp2, fun p hp => by rw [List.length_map]; exact g1 p hp, fun H'' c nc sc hc => ⟨_, rfl, eqd_T (SqT.of hc) (SqT.of (sc _ _ ham')) (q' _ _ sc ?_)⟩⟩
                rw [decide_eq_true g2]
              · intro H11 s11 hl11
                refine ⟨D8, _, rfl, SqL.of hl11, ?_⟩
                rw [all_true]
                exact q _ (s010.trans s11)
end
end Kn
/-! H9 -/
set_option maxHeartbeats 2000000
namespace Kn
open PySem PySem.Spec PyProof.Rows L2
theorem sc__law_bag : FnScope ["_law_script", "_law_mixed_here", "_law_cell"] ["_law_script"] (defScope s__law_bag) := ⟨rfl, rfl, rfl, by decide +kernel, rfl, by decide +kernel, by decide +kernel⟩
theorem sc__law_pull : FnScope ["_law_bag_here", "_law_sides", "_law_cell", "_law_digit", "_law_twice"] ["_law_bag_here", "_law_sides"] (defScope s__law_pull) := ⟨rfl, rfl, rfl, by decide +kernel, rfl, by decide +kernel, by decide +kernel⟩
theorem sc__law_of : FnScope ["_law_bag_here", "_law_some"] ["_law_bag_here", "_law_some"] (defScope s__law_of) := ⟨rfl, rfl, rfl, by decide +kernel, rfl, by decide +kernel, by decide +kernel⟩
theorem sc__law_mixed : FnScope ["_law_bag_here", "_law_some", "_law_left", "_law_found"] ["_law_bag_here", "_law_some"] (defScope s__law_mixed) := ⟨rfl, rfl, rfl, by decide +kernel, rfl, by decide +kernel, by decide +kernel⟩
theorem seq_intro {t u : TS} {D : Ends} {σ : L2.St} {H : Hp} (R : L2.St → Hp → Prop) (hR : ∀ σ' H', R σ' H' → u D σ' H') (h : (∀ σ' H', R σ' H' → u D σ' H') → t { D with nx := u D } σ H) : tSeq t u D σ H := h hR
/-- the bag: cells, how many taken, the rest of a great cell, a mixed number, how many draws -/
def Bag (H : Hp) (bg cl : Addr) : Prop := ∃ (ns : List Int) (i : Nat) (g m d : Int), H bg = some (.lst [.ref cl, .int (i : Int), .int g, .int m, .int d]) ∧ H cl = some (.lst (ns.map V.int)) ∧ i ≤ ns.length ∧ ns.length ≤ 63 ∧ 0 ≤ g ∧ 0 ≤ m ∧ m < 2147483629
theorem KeepX.refl (x : Addr) (H : Hp) : KeepX x H H := fun _ _ _ h => h
theorem KeepX.trans {x : Addr} {H1 H2 H3 : Hp} (a : KeepX x H1 H2) (b : KeepX x H2 H3) : KeepX x H1 H3 := fun c o hc h => b c o hc (a c o hc h)
theorem KeepX.of {x : Addr} {H H' : Hp} (s : Same H H') : KeepX x H H' := fun c o _ h => s c o h
theorem KeepX.upd {x : Addr} {H H' : Hp} {o : HO} (k : KeepX x H H') : KeepX x H (upd H' x o) := fun c u hc h => by
  rw [upd_ne hc]
  exact k c u hc h
theorem KeepX.updn {x p : Addr} {H H' : Hp} {o : HO} (k : KeepX x H H') (np : H p = none) : KeepX x H (L2.upd H' p o) := fun c u hc h => by
  rw [upd_ne (ne_of_none h np)]
  exact k c u hc h
/-- what is new behind is new ahead, the bag apart -/
theorem KeepX.none {x p : Addr} {H H' : Hp} (k : KeepX x H H') (h : p ≠ x) (np : H' p = Option.none) : H p = Option.none := by
  cases e : H p with
  | none => rfl
  | some o =>
    rw [k p o h e] at np
    cases np
theorem Bag.ne {H : Hp} {bg cl p : Addr} (b : Bag H bg cl) (np : H p = none) : p ≠ bg := fun e => by
  obtain ⟨ns, i, g, m, d, h, _⟩ := b
  rw [e, h] at np
  cases np
theorem Bag.same {H H' : Hp} {bg cl : Addr} (b : Bag H bg cl) (s : Same H H') : Bag H' bg cl := by
  obtain ⟨ns, i, g, m, d, h1, h2, h⟩ := b
  exact ⟨ns, i, g, m, d, s _ _ h1, s _ _ h2, h⟩
theorem KeepX.tameB {x cl : Addr} {H H' : Hp} (k : KeepX x H H') (b : Bag H x cl) : Tame H H' := by
  obtain ⟨ns, i, g, m, d, h1, _⟩ := b
  exact ⟨fun c xs h => k _ _ (ne_of h h1 (fun z => nomatch z)) h, fun c o u h => k _ _ (ne_of h h1 (fun z => nomatch z)) h⟩
def sp_lbag (K : Fr) : Sp := fun vs H Q _ => ∃ (a : Addr) (ns : List Int), vs = [.ref a] ∧ SqL K H a (ns.map V.int) ∧ ns.length ≤ 63 ∧ ∀ H' bg cl, H bg = none → Same H H' → Bag H' bg cl → Q (.ref bg) H'
def sp_lpull : Sp := fun vs H Q _ => ∃ (bg cl : Addr) (k : Nat), vs = [.ref bg, .int (k : Int)] ∧ Bag H bg cl ∧ 0 < k ∧ k < 1000 ∧ ∀ (H' : Hp) (n : Nat), n < k → KeepX bg H H' → Bag H' bg cl → Q (.int (n : Int)) H'
def sp_lof : Sp := fun vs H Q _ => ∃ (bg cl b : Addr) (xs : List V), vs = [.ref bg, .ref b] ∧ Bag H bg cl ∧ b ≠ bg ∧ H b = some (.lst xs) ∧ 0 < xs.length ∧ xs.length < 1000 ∧ ∀ (H' : Hp) (i : Nat) (v : V), xs[i]? = some v → KeepX bg H H' → Bag H' bg cl → Q v H'
/-- data that == may look at -/
def Flt (K : Fr) (H : Hp) (v : V) : Prop := ∃ d, Dp K H v d ∧ PyData.canLay0 d = true ∧ PyData.depth d ≤ 1
theorem flt_all {K : Fr} {H : Hp} : ∀ vs : List V, (∀ v ∈ vs, Flt K H v) → ∃ ds, DpAll K H vs ds ∧ PyData.canLayAll0 ds = true ∧ PyData.depthAll ds ≤ 1 ∧ ds.length = vs.length
  | [], _ => ⟨[], .nil, by simp [PyData.canLayAll0], by simp [PyData.depthAll], rfl⟩
  | v :: vs, h => by
    obtain ⟨d, h1, h2, h3⟩ := h v List.mem_cons_self
    obtain ⟨ds, k1, k2, k3, k4⟩ := flt_all vs fun u hu => h u (List.mem_cons_of_mem _ hu)
    refine ⟨d :: ds, .cons h1 k1, ?_, ?_, by rw [List.length_cons, List.length_cons, k4]⟩
    · rw [PyData.canLayAll0, h2, k2]
      rfl
    · rw [PyData.depthAll]
      omega
/-- xs != [] -/
theorem ned_nil {K : Fr} {H : Hp} {Q : VK} {a b : Addr} {vs : List V} (ha : SqL K H a vs) (hf : ∀ v ∈ vs, Flt K H v) (hb : SqL K H b (tI [])) (q : Q (.bl (!vs.isEmpty)) H) : rNeD K (.ref a) (.ref b) H Q := by
  obtain ⟨ds, k1, k2, k3, k4⟩ := flt_all vs hf
  refine ⟨_, _, .lst ha k1, dp_lI hb, ?_, shaped_lI _, ?_⟩
  · unfold SeqAt.shaped
    rw [PyData.depth, PyData.canLay0, k2, Bool.true_and]
    exact decide_eq_true (by omega)
  · have e : PyData.eqv (.list ds) (.list (([] : List Nat).map fun n : Nat => PyData.int (n : Int))) = vs.isEmpty := by
      rw [PyData.eqv]
      cases ds with
      | nil =>
        have : vs = [] := List.length_eq_zero_iff.mp k4.symm
        rw [this]
        simp [PyData.eqvAll]
      | cons d ds =>
        cases vs with
        | nil => simp at k4
        | cons v vs => simp [PyData.eqvAll]
    rw [e]
    exact q
def sp_lmix (K : Fr) : Sp := fun vs H Q _ => ∃ (bg cl b : Addr) (xs : List V), vs = [.ref bg, .ref b] ∧ Bag H bg cl ∧ b ≠ bg ∧ H b = some (.lst xs) ∧ xs.length < 1000 ∧ (∀ H', KeepX bg H H' → ∀ v ∈ xs, Flt K H' v) ∧
  ∀ (H' : Hp) (c : Addr) (ys : List V), H c = none → KeepX bg H H' → Bag H' bg cl → H' c = some (.lst ys) → ys.Perm xs → Q (.ref c) H'
theorem erase_perm {α : Type} : ∀ (l : List α) (n : Nat) (h : n < l.length), (l[n] :: l.eraseIdx n).Perm l
  | x :: xs, 0, _ => List.Perm.refl _
  | x :: xs, n + 1, h => ((List.Perm.swap x (xs[n]'(Nat.lt_of_succ_lt_succ h)) (xs.eraseIdx n))).trans ((erase_perm xs n (Nat.lt_of_succ_lt_succ h)).cons x)
theorem i64 {c : Int} (h : -(2 ^ 64) < c ∧ c < 2 ^ 64) : -(2 ^ 64) < c ∧ c < 2 ^ 64 := h
section
variable {P : Program} {w : World} {K : Fr} {mg : Str → Option Value} {base : Heap} {fd : FuncData} {f CM : Addr}
theorem ok_lbag (F0 : FnP K "_law_bag" s__law_bag f fd) (T : Bt mg) : FnOk P w K mg base CX0 1 f fd ["_law_script"] (sp_lbag K) := by
  refine F0.ok sc__law_bag (fun vs H Q E h => ?_) (fun cdv A outer s H vs Q E hr h => ?_)
  · obtain ⟨a, ns, rfl, _⟩ := h
    rfl
  · obtain ⟨a, ns, rfl, ha, hl, q⟩ := h
    refine ⟨_, PSs.nox (pss_cons (ps_set (i := 1) sc__law_bag.nd rfl (Or.inl rfl) pe_int)
  (pss_cons (ps_for PassesOwn.never rfl (piL K (pe_slice (slL K) (pv 0) po_none (po_some pe_int))) (pg_name (i := 2) sc__law_bag.nd rfl (Or.inl rfl))
  (pss_one (ps_set (i := 1) sc__law_bag.nd rfl (Or.inl rfl) (pe_op op_mod (pe_callTy call_int1 (by rfl) T.int (by decide +kernel) (pa_cons (pe_op op_add (pe_op op_add (pe_op op_mul (pv 1) pe_int) (pe_op op_mul (pe_op op_mod (pe_callTy call_int1 (by rfl) T.int (by decide +kernel) (pa_cons (pv 2) pa_nil)) pe_int) pe_int)) pe_int) pa_nil)) pe_int))))
  (pss_one (ps_ret (pe_lst (pa_cons (pe_callTy (callListOf K) (by rfl) T.list (by decide +kernel) (pa_cons (pe_slice (slL K) (pv 0) po_none (po_some pe_int)) pa_nil)) (pa_cons pe_int (pa_cons pe_int (pa_cons (pv 1) (pa_cons pe_int pa_nil)))))))))), ?_⟩
    have hcut : cutV (ns.map V.int) none (some 63) = ns.map V.int := by
      unfold cutV
      rw [HT.sIx_none, show (some (63 : Int)) = some ((63 : Nat) : Int) from rfl, HT.sIx_nat, List.length_map, Nat.min_eq_right hl, Nat.sub_zero, List.drop_zero, List.take_of_length_le (by rw [List.length_map]; exact Nat.le_refl _)]
    refine ⟨_, rfl, 63, rfl, a, _, rfl, ha, fun p np => ?_⟩
    rw [hcut]
    have s1 : Same H (upd H p (.lst (ns.map V.int))) := same_upd np
    refine ⟨p, rfl, ⟨_, SqL.of upd_same⟩, ?_⟩
    refine for_wk (wk_lst (K := K) (SqL.of (H := upd H p (.lst (ns.map V.int))) upd_same)) (fun i σ H' => Same (upd H p (.lst (ns.map V.int))) H' ∧ ∃ (m : Int) (v2 : Option V), σ = [some (.ref a), some (.int m), v2] ∧ 0 ≤ m ∧ m < 2147483629) ⟨Same.refl _, 5632, none, rfl, by decide, by decide⟩ (fun i σ H h => h.1) ?_ ?_
    · rintro i x σ H3 H4 hi ⟨s3, m, v2, rfl, hm0, hm1⟩ s34 hx
      obtain ⟨z, rfl⟩ : ∃ z, x = .int z := by
        obtain ⟨z, _, e⟩ := List.mem_map.mp (List.mem_of_getElem? hx)
        exact ⟨z, e.symm⟩
      refine ⟨_, rfl, _, _, rfl, rfl, .inr ⟨by decide, by decide⟩, ?_⟩
      refine ⟨_, rfl, .inl ⟨_, rfl, _, _, rfl, rfl, (by show (0 : Int) < 1000003; decide), _, _, rfl, rfl, .inr ⟨by decide, by decide⟩, ?_⟩⟩
      refine ⟨_, _, rfl, rfl, _, _, rfl, rfl, .inl ⟨_, rfl, _, _, rfl, rfl, (by show (0 : Int) < 2147483629; decide), ?_⟩⟩
      exact ⟨s3.trans s34, _, _, rfl, Int.emod_nonneg _ (by decide), Int.emod_lt_of_pos _ (by decide)⟩
    · rintro σ H3 ⟨s3, m, v2, rfl, hm0, hm1⟩
      have s13 := s1.trans s3
      refine ⟨_, rfl, 63, rfl, a, _, rfl, s13.seq ha, fun p2 np2 => ?_⟩
      rw [hcut]
      refine ⟨p2, _, rfl, .inl (SqL.of upd_same), fun p3 np3 => ⟨_, rfl, szl (by show 5 ≤ 1000000; decide), fun bg nbg => ?_⟩⟩
      have s5 : Same H3 (upd (upd (upd H3 p2 (.lst (ns.map V.int))) p3 (.lst (ns.map V.int))) bg (.lst [.ref p3, .int 0, .int 0, .int m, .int 0])) := (same_upd np2).trans ((same_upd np3).trans (same_upd nbg))
      refine q _ bg p3 ((s13.trans ((same_upd np2).trans (same_upd np3))).free nbg) (s13.trans s5) ⟨ns, 0, 0, m, 0, upd_same, same_upd nbg _ _ upd_same, Nat.zero_le _, hl, by decide, hm0, hm1⟩
theorem ok_lpull (F0 : FnP K "_law_pull" s__law_pull f fd) (T : Bt mg) : FnOk P w K mg base CX0 1 f fd ["_law_bag_here", "_law_sides"] sp_lpull := by
  refine F0.ok sc__law_pull (fun vs H Q E h => ?_) (fun cdv A outer s H vs Q E hr h => ?_)
  · obtain ⟨bg, cl, k, rfl, _⟩ := h
    rfl
  · obtain ⟨bg, cl, k, rfl, ⟨ns, i, g, m, d, hbg, hcl, hi, hl, hg0, hm0, hm1⟩, hk0, hk1, q⟩ := h
    refine ⟨_, PSs.nox (pss_cons (ps_asg (pe_op op_add (pe_ix (ixL K) (pv 0) pe_int (fun _ _ => rfl)) pe_int) (pg_sub (pv 0) pe_int set_list))
  (pss_cons (ps_if (PW.pt (pw_and (pt_cmpR op_eq (pe_ix (ixL K) (pv 0) pe_int (fun _ _ => rfl)) pe_int (nomark _)) (pw_and1 (pt_cmpR op_lt (pe_ix (ixL K) (pv 0) pe_int (fun _ _ => rfl)) (pe_callB (callLenSeq K) (by rfl) T.len PySem.boot_len (pa_cons (pe_ix (ixL K) (pv 0) pe_int (fun _ _ => rfl)) pa_nil)) (nomark _))))) (pss_cons (ps_set (i := 2) sc__law_pull.nd rfl (Or.inl rfl) (pe_ix (ixL K) (pe_ix (ixL K) (pv 0) pe_int (fun _ _ => rfl)) (pe_ix (ixL K) (pv 0) pe_int (fun _ _ => rfl)) (fun _ _ => rfl)))
  (pss_cons (ps_asg (pe_op op_add (pe_ix (ixL K) (pv 0) pe_int (fun _ _ => rfl)) pe_int) (pg_sub (pv 0) pe_int set_list))
  (pss_one (ps_if (pt_cmpR op_ge (pe_callB call_abs (by rfl) T.abs (by decide +kernel) (pa_cons (pv 2) pa_nil)) (pe_op op_pow pe_int pe_int) (nomark _)) (pss_one (ps_asg (pe_callB call_abs (by rfl) T.abs (by decide +kernel) (pa_cons (pv 2) pa_nil)) (pg_sub (pv 0) pe_int set_list))) (pss_one (ps_asg (pe_op op_mod (pe_callTy call_int1 (by rfl) T.int (by decide +kernel) (pa_cons (pe_op op_add (pe_op op_add (pe_op op_mul (pe_ix (ixL K) (pv 0) pe_int (fun _ _ => rfl)) pe_int) (pe_op op_mul (pe_op op_mod (pe_callTy call_int1 (by rfl) T.int (by decide +kernel) (pa_cons (pv 2) pa_nil)) pe_int) pe_int)) pe_int) pa_nil)) pe_int) (pg_sub (pv 0) pe_int set_list))))))) pss_nil)
  (pss_cons (ps_if (pt_cmpR op_gt (pe_ix (ixL K) (pv 0) pe_int (fun _ _ => rfl)) pe_int (nomark _)) (pss_cons (ps_set (i := 3) sc__law_pull.nd rfl (Or.inl rfl) (pe_op op_mod (pe_callTy call_int1 (by rfl) T.int (by decide +kernel) (pa_cons (pe_ix (ixL K) (pv 0) pe_int (fun _ _ => rfl)) pa_nil)) (pv 1)))
  (pss_cons (ps_asg (pe_op op_fdiv (pe_ix (ixL K) (pv 0) pe_int (fun _ _ => rfl)) (pv 1)) (pg_sub (pv 0) pe_int set_list))
  (pss_one (ps_ret (pv 3))))) pss_nil)
  (pss_cons (ps_set (i := 4) sc__law_pull.nd rfl (Or.inl rfl) (pe_op op_mod (pe_callTy call_int1 (by rfl) T.int (by decide +kernel) (pa_cons (pe_op op_add (pe_op op_mul (pe_ix (ixL K) (pv 0) pe_int (fun _ _ => rfl)) (pe_ix (ixL K) (pv 0) pe_int (fun _ _ => rfl))) (pe_op op_mul (pe_ix (ixL K) (pv 0) pe_int (fun _ _ => rfl)) pe_int)) pa_nil)) pe_int))
  (pss_cons (ps_asg (pe_op op_mod (pe_callTy call_int1 (by rfl) T.int (by decide +kernel) (pa_cons (pe_op op_add (pe_op op_add (pe_op op_mul (pv 4) pe_int) (pe_op op_mul (pe_ix (ixL K) (pv 0) pe_int (fun _ _ => rfl)) pe_int)) pe_int) pa_nil)) pe_int) (pg_sub (pv 0) pe_int set_list))
  (pss_one (ps_ret (pe_op op_mod (pe_callTy call_int1 (by rfl) T.int (by decide +kernel) (pa_cons (pe_op op_fdiv (pe_ix (ixL K) (pv 0) pe_int (fun _ _ => rfl)) pe_int) pa_nil)) (pv 1))))))))), ?_⟩
    have hne : cl ≠ bg := fun e => by
      rw [e, hbg] at hcl
      have h := HO.lst.inj (Option.some.inj hcl)
      cases ns with
      | nil => cases h
      | cons z zs => cases h
    have eI : ∀ x : Nat, (x : Int) % (k : Int) = ((x % k : Nat) : Int) := fun x => (Int.natCast_emod _ _).symm
    -- bag[4] = bag[4] + 1
    refine ⟨_, rfl, bg, _, 4, .int d, rfl, rfl, SqL.of hbg, atI_nat (j := 4) rfl, _, _, rfl, rfl, _, rfl, bg, _, 4, 4, rfl, rfl, hbg, rfl, ?_⟩
    have hb1 : (upd H bg (.lst [.ref cl, .int (i : Int), .int g, .int m, .int (d + 1)])) bg = some (.lst [.ref cl, .int (i : Int), .int g, .int m, .int (d + 1)]) := upd_same
    have hc1 : (upd H bg (.lst [.ref cl, .int (i : Int), .int g, .int m, .int (d + 1)])) cl = some (.lst (ns.map V.int)) := by rw [upd_ne hne]; exact hcl
    have k1 : KeepX bg H (upd H bg (.lst [.ref cl, .int (i : Int), .int g, .int m, .int (d + 1)])) := (KeepX.refl _ _).upd
    generalize hd1 : d + 1 = d1 at hb1 hc1 k1
    dsimp only
    show tSeq _ _ _ _ (upd H bg (.lst [.ref cl, .int (i : Int), .int g, .int m, .int (d + 1)]))
    rw [hd1]
    generalize upd H bg (.lst [.ref cl, .int (i : Int), .int g, .int m, .int d1]) = H1 at hb1 hc1 k1
    refine seq_intro (fun σ' H' => ∃ v2, σ' = [some (.ref bg), some (.int (k : Int)), v2, none, none] ∧ KeepX bg H H' ∧ Bag H' bg cl) ?_ (fun rest => ?_)
    · rintro σ' H' ⟨v2, rfl, k2, ns, i, g, m, d, hbg, hcl, hi, hl, hg0, hm0, hm1⟩
      refine ⟨_, rfl, bg, _, 2, .int g, rfl, rfl, SqL.of hbg, atI_nat (j := 2) rfl, _, _, rfl, rfl, _, rfl, ?_⟩
      refine ite2 (fun hpos => ?_) (fun hneg => ?_)
      · -- a digit
        obtain ⟨g', rfl⟩ : ∃ g' : Nat, g = (g' : Int) := ⟨g.toNat, by omega⟩
        refine ⟨_, rfl, bg, _, 2, .int (g' : Int), rfl, rfl, SqL.of hbg, atI_nat (j := 2) rfl, .inl ⟨_, rfl, _, rfl, _, _, rfl, rfl, (by show (0 : Int) < (k : Int); omega), ?_⟩⟩
        dsimp only
        rw [eI]
        refine ⟨_, rfl, bg, _, 2, .int (g' : Int), rfl, rfl, SqL.of hbg, atI_nat (j := 2) rfl, _, rfl, _, _, rfl, rfl, ⟨by omega, by omega⟩, _, rfl, bg, _, 2, 2, rfl, rfl, hbg, rfl, ?_⟩
        refine ⟨_, rfl, q _ (g' % k) (Nat.mod_lt _ hk0) k2.upd ⟨ns, i, (g' : Int) / (k : Int), m, d, upd_same, ?_, hi, hl, Int.ediv_nonneg (by omega) (by omega), hm0, hm1⟩⟩
        rw [upd_ne (ne_of hcl hbg (fun z => by
          have h := HO.lst.inj z
          cases ns with
          | nil => cases h
          | cons z zs => cases h))]
        exact hcl
      · have hmm : -(2 ^ 64) < m ∧ m < 2 ^ 64 := ⟨Int.lt_of_lt_of_le (by decide) hm0, Int.lt_trans hm1 (by decide)⟩
        refine ⟨_, rfl, bg, _, 3, .int m, rfl, rfl, SqL.of hbg, atI_nat (j := 3) rfl, _, rfl, bg, _, 3, .int m, rfl, rfl, SqL.of hbg, atI_nat (j := 3) rfl, _, _, rfl, rfl, .inl hmm, ?_⟩
        refine ⟨_, rfl, bg, _, 4, .int d, rfl, rfl, SqL.of hbg, atI_nat (j := 4) rfl, _, _, rfl, rfl, .inr ⟨by decide, by decide⟩, _, _, rfl, rfl, .inl ⟨_, rfl, _, _, rfl, rfl, (by show (0 : Int) < 2147483587; decide), ?_⟩⟩
        -- bag[3] = ..
        refine ⟨_, rfl, _, _, rfl, rfl, .inr ⟨by decide, by decide⟩, _, rfl, bg, _, 3, .int m, rfl, rfl, SqL.of hbg, atI_nat (j := 3) rfl, _, _, rfl, rfl, .inr ⟨by decide, by decide⟩, _, _, rfl, rfl, _, _, rfl, rfl, .inl ⟨_, rfl, _, _, rfl, rfl, (by show (0 : Int) < 2147483629; decide), ?_⟩⟩
        refine ⟨_, rfl, bg, _, 3, 3, rfl, rfl, hbg, rfl, ?_⟩
        dsimp only
        generalize hm' : ((m * m + d * 7919) % 2147483587 * 16807 + m * 69621 + 12345) % 2147483629 = m'
        have hm'0 : 0 ≤ m' := by rw [← hm']; exact Int.emod_nonneg _ (by decide)
        have hm'1 : m' < 2147483629 := by rw [← hm']; exact Int.emod_lt_of_pos _ (by decide)
        obtain ⟨x, hx⟩ : ∃ x : Nat, m' / 64 = (x : Int) := ⟨(m' / 64).toNat, by have := Int.ediv_nonneg hm'0 (by decide : (0 : Int) ≤ 64); omega⟩
        refine ⟨_, rfl, bg, _, 3, .int m', rfl, rfl, SqL.of upd_same, atI_nat (j := 3) rfl, _, _, rfl, rfl, ⟨by decide, by decide⟩, .inl ⟨_, rfl, _, rfl, _, _, rfl, rfl, (by show (0 : Int) < (k : Int); omega), ?_⟩⟩
        dsimp only
        rw [hx, eI]
        refine q _ (x % k) (Nat.mod_lt _ hk0) k2.upd ⟨ns, i, g, m', d, upd_same, ?_, hi, hl, hg0, hm'0, hm'1⟩
        rw [upd_ne (ne_of hcl hbg (fun z => by
          have h := HO.lst.inj z
          cases ns with
          | nil => cases h
          | cons z zs => cases h))]
        exact hcl
    · -- if bag[2] == 0 and bag[1] < len(bag[0])
      refine ⟨_, rfl, bg, _, 2, .int g, rfl, rfl, SqL.of hb1, atI_nat (j := 2) rfl, rfl, _, rfl, ?_⟩
      refine ite2 (fun hz => ?_) (fun hnz => ?_)
      · refine ⟨_, rfl, bg, _, 1, .int (i : Int), rfl, rfl, SqL.of hb1, atI_nat (j := 1) rfl, _, rfl, bg, _, 0, .ref cl, rfl, rfl, SqL.of hb1, atI_nat (j := 0) rfl, cl, _, rfl, .inl (SqL.of hc1), _, _, rfl, rfl, _, rfl, ?_⟩
        refine ite2 (fun hlt => ?_) (fun hge => ?_)
        · have hil : i < ns.length := by
            have := of_decide_eq_true hlt
            rw [List.length_map] at this
            omega
          obtain ⟨z, hz⟩ : ∃ z, ns[i]? = some z := ⟨_, List.getElem?_eq_getElem hil⟩
          have hzv : (ns.map V.int)[i]? = some (V.int z) := by rw [List.getElem?_map, hz]; rfl
          refine ⟨_, rfl, bg, _, 0, .ref cl, rfl, rfl, SqL.of hb1, atI_nat (j := 0) rfl, _, rfl, bg, _, 1, .int (i : Int), rfl, rfl, SqL.of hb1, atI_nat (j := 1) rfl, cl, _, (i : Int), .int z, rfl, rfl, SqL.of hc1, atI_nat hzv, ?_⟩
          refine ⟨_, rfl, bg, _, 1, .int (i : Int), rfl, rfl, SqL.of hb1, atI_nat (j := 1) rfl, _, _, rfl, rfl, _, rfl, bg, _, 1, 1, rfl, rfl, hb1, rfl, ?_⟩
          have k2 : KeepX bg H (upd H1 bg (.lst [.ref cl, .int ((i : Int) + 1), .int g, .int m, .int d1])) := k1.upd
          have hb2 : (upd H1 bg (.lst [.ref cl, .int ((i : Int) + 1), .int g, .int m, .int d1])) bg = some (.lst [.ref cl, .int ((i + 1 : Nat) : Int), .int g, .int m, .int d1]) := upd_same
          have hc2 : (upd H1 bg (.lst [.ref cl, .int ((i : Int) + 1), .int g, .int m, .int d1])) cl = some (.lst (ns.map V.int)) := by rw [upd_ne hne]; exact hc1
          dsimp only
          show tIfS _ _ _ _ _ (upd H1 bg (.lst [.ref cl, .int ((i : Int) + 1), .int g, .int m, .int d1]))
          generalize upd H1 bg (.lst [.ref cl, .int ((i : Int) + 1), .int g, .int m, .int d1]) = H2 at k2 hb2 hc2
          refine ⟨_, rfl, _, rfl, _, _, rfl, rfl, ⟨by decide, by decide, by decide⟩, _, _, rfl, rfl, _, rfl, ?_⟩
          refine ite2 (fun hbig => ?_) (fun hsmall => ?_)
          · refine ⟨_, rfl, _, rfl, _, rfl, bg, _, 2, 2, rfl, rfl, hb2, rfl, ?_⟩
            refine rest _ _ ⟨_, rfl, k2.upd, ns, i + 1, (if z < 0 then -z else z), m, d1, upd_same, by rw [upd_ne hne]; exact hc2, hil, hl, by split <;> omega, hm0, hm1⟩
          · refine ⟨_, rfl, bg, _, 3, .int m, rfl, rfl, SqL.of hb2, atI_nat (j := 3) rfl, _, _, rfl, rfl, .inr ⟨by decide, by decide⟩, ?_⟩
            refine ⟨_, rfl, .inl ⟨_, rfl, _, _, rfl, rfl, (by show (0 : Int) < 1000003; decide), _, _, rfl, rfl, .inr ⟨by decide, by decide⟩, ?_⟩⟩
            refine ⟨_, _, rfl, rfl, _, _, rfl, rfl, .inl ⟨_, rfl, _, _, rfl, rfl, (by show (0 : Int) < 2147483629; decide), ?_⟩⟩
            refine ⟨_, rfl, bg, _, 3, 3, rfl, rfl, hb2, rfl, ?_⟩
            exact rest _ _ ⟨_, rfl, k2.upd, ns, i + 1, g, _, d1, upd_same, by rw [upd_ne hne]; exact hc2, hil, hl, hg0, Int.emod_nonneg _ (by decide), Int.emod_lt_of_pos _ (by decide)⟩
        · exact rest _ _ ⟨_, rfl, k1, ns, i, g, m, d1, hb1, hc1, hi, hl, hg0, hm0, hm1⟩
      · exact rest _ _ ⟨_, rfl, k1, ns, i, g, m, d1, hb1, hc1, hi, hl, hg0, hm0, hm1⟩
theorem ok_lof (F0 : FnP K "_law_of" s__law_of f fd) (T : Bt mg) (F__law_pull : Fo P w K mg base "_law_pull" ["_law_bag_here", "_law_sides"] 1 sp_lpull) : FnOk P w K mg base CX0 2 f fd ["_law_bag_here", "_law_some"] sp_lof := by
  refine F0.ok sc__law_of (fun vs H Q E h => ?_) (fun cdv A outer s H vs Q E hr h => ?_)
  · obtain ⟨bg, cl, b, xs, rfl, _⟩ := h
    rfl
  · obtain ⟨bg, cl, b, xs, rfl, hB, hne, hb, h0, h1, q⟩ := h
    refine ⟨_, PSs.nox (pss_one (ps_ret (pe_ix (ixL K) (pv 1) (pc F__law_pull hr (by rfl) (pa_cons (pv 0) (pa_cons (pe_callB (callLenSeq K) (by rfl) T.len PySem.boot_len (pa_cons (pv 1) pa_nil)) pa_nil))) (fun _ _ => rfl)))), ?_⟩
    refine ⟨_, rfl, _, rfl, _, rfl, b, _, rfl, .inl (SqL.of hb), bg, cl, xs.length, rfl, hB, h0, h1, fun H' n hn k1 hB' => ?_⟩
    have hv : xs[n]? = some xs[n] := List.getElem?_eq_getElem hn
    exact ⟨b, xs, (n : Int), xs[n], rfl, rfl, SqL.of (k1 _ _ hne hb), atI_nat hv, q H' n _ hv k1 hB'⟩
theorem ok_lmix (F0 : FnP K "_law_mixed" s__law_mixed f fd) (T : Bt mg) (F__law_pull : Fo P w K mg base "_law_pull" ["_law_bag_here", "_law_sides"] 1 sp_lpull) : FnOk P w K mg base CX0 2 f fd ["_law_bag_here", "_law_some"] (sp_lmix K) := by
  refine F0.ok sc__law_mixed (fun vs H Q E h => ?_) (fun cdv A outer s H vs Q E hr h => ?_)
  · obtain ⟨bg, cl, b, xs, rfl, _⟩ := h
    rfl
  · obtain ⟨bg, cl, b, xs, rfl, hB, hne, hb, h1, hF, q⟩ := h
    refine ⟨_, PSs.nox (pss_cons (ps_par (by rfl) sc__law_mixed.nd (i := 2) (j := 3) rfl rfl (by decide) rfl rfl (pa_cons (pe_callTy (callListOf K) (by rfl) T.list (by decide +kernel) (pa_cons (pv 1) pa_nil)) (pa_cons (pe_lst pa_nil) pa_nil)) (by rfl))
  (pss_cons (ps_while PassesOwn.never (pt_cmpR (opNeD K hr.units) (pv 2) (pe_lst pa_nil) (nomark _)) (pss_one (ps_expr (pe_bm PySem.F.plainAttrs_list PySem.F.slot_list_append PySem.F.type_list_append mt_append (pv 3) (pa_cons (pe_bm PySem.F.plainAttrs_list PySem.F.slot_list_pop PySem.F.type_list_pop mt_popAt (pv 2) (pa_cons (pc F__law_pull hr (by rfl) (pa_cons (pv 0) (pa_cons (pe_callB (callLenSeq K) (by rfl) T.len PySem.boot_len (pa_cons (pv 2) pa_nil)) pa_nil))) pa_nil)) pa_nil)))))
  (pss_one (ps_ret (pv 3))))), ?_⟩
    refine ⟨_, rfl, b, _, rfl, .inl (SqL.of hb), fun l nl => ⟨szl (by show 0 ≤ 1000000; decide), fun c nc => ?_⟩⟩
    have sl : Same H (upd H l (.lst xs)) := same_upd nl
    have ncH := sl.free nc
    have s1 : Same H (upd (upd H l (.lst xs)) c (.lst [])) := sl.trans (same_upd nc)
    have hlc : l ≠ c := fun e => by rw [← e, upd_same] at nc; cases nc
    have hlb : l ≠ bg := hB.ne nl
    have hcb : c ≠ bg := hB.ne ncH
    refine ⟨_, _, rfl, fun m σ H' => ∃ left found, σ = [some (.ref bg), some (.ref b), some (.ref l), some (.ref c)] ∧ m = left.length ∧ KeepX bg H H' ∧ Bag H' bg cl ∧ H' l = some (.lst left) ∧ H' c = some (.lst found) ∧ (found ++ left).Perm xs,
      ⟨xs.length, xs, [], rfl, rfl, KeepX.of s1, hB.same s1, by rw [upd_ne hlc, upd_same], upd_same, List.Perm.refl _⟩, ?_⟩
    rintro m σ H2 ⟨left, found, rfl, rfl, k2, hB2, hl2, hc2, hp⟩
    have hlen : found.length + left.length = xs.length := by rw [← List.length_append]; exact hp.length_eq
    refine ⟨_, rfl, szl (by show 0 ≤ 1000000; decide), fun p np => ?_⟩
    have s2 : Same H2 (upd H2 p (.lst [])) := same_upd np
    refine ned_nil (SqL.of (s2 _ _ hl2)) (fun v hv => hF _ (k2.trans (KeepX.of s2)) v (hp.mem_iff.mp (List.mem_append_right _ hv))) (SqL.of upd_same) ⟨_, rfl, ?_⟩
    have k3 := k2.trans (KeepX.of (x := bg) s2)
    have hB3 := hB2.same s2
    have hl3 := s2 _ _ hl2
    have hc3 := s2 _ _ hc2
    generalize upd H2 p (.lst []) = H3 at k3 hB3 hl3 hc3
    cases left with
    | nil =>
      rw [List.append_nil] at hp
      exact iteF ⟨_, rfl, q H3 c found ncH k3 hB3 hc3 hp⟩
    | cons y ys =>
      refine iteT ?_
      refine ⟨fun σ' H' => ∃ m', m' < (y :: ys).length ∧ ∃ left found, σ' = [some (.ref bg), some (.ref b), some (.ref l), some (.ref c)] ∧ m' = left.length ∧ KeepX bg H H' ∧ Bag H' bg cl ∧ H' l = some (.lst left) ∧ H' c = some (.lst found) ∧ (found ++ left).Perm xs, fun σ' H' h => h, ?_⟩
      refine ⟨.ref c, rfl, .inl ⟨rfl, _, SqL.of hc3⟩, .ref l, rfl, .inl ⟨rfl, _, SqL.of hl3⟩, _, rfl, _, rfl, l, _, rfl, .inl (SqL.of hl3), bg, cl, (y :: ys).length, rfl, hB3, Nat.succ_pos _, by omega, fun H4 n hn k4 hB4 => ?_⟩
      have hl4 := k4 _ _ hlb hl3
      have hc4 := k4 _ _ hcb hc3
      have hv : (y :: ys)[n]? = some (y :: ys)[n] := List.getElem?_eq_getElem hn
      refine ⟨l, _, (n : Int), n, _, rfl, rfl, hl4, by omega, by omega, ?_, hv, ?_⟩
      · have := seqIndex_of (k := (n : Int)) (n := (y :: ys).length) (by omega) (by omega)
        rw [this]
        simp
      · have hc5 : (upd H4 l (.lst ((y :: ys).eraseIdx n))) c = some (.lst found) := by rw [upd_ne hlc.symm]; exact hc4
        refine ⟨c, found, _, rfl, rfl, hc5, szl' (by omega), ?_⟩
        refine ⟨ys.length, by rw [List.length_cons]; omega, (y :: ys).eraseIdx n, found ++ [(y :: ys)[n]], rfl, by rw [List.length_eraseIdx_of_lt hn]; rfl, ((k3.trans k4).updn nl).updn ncH, ?_, by rw [upd_ne hlc, upd_same], upd_same, ?_⟩
        · obtain ⟨ns, i, g, m, d, h1, h2, h⟩ := hB4
          obtain ⟨ns0, _, _, _, _, _, h20, _⟩ := hB
          have hcll : cl ≠ l := ne_of_none h20 nl
          have hclc : cl ≠ c := ne_of_none h20 ncH
          exact ⟨ns, i, g, m, d, by rw [upd_ne hcb.symm, upd_ne hlb.symm]; exact h1, by rw [upd_ne hclc, upd_ne hcll]; exact h2, h⟩
        · refine List.Perm.trans ?_ hp
          rw [List.append_assoc]
          refine List.Perm.append_left found ?_
          exact erase_perm _ _ hn
end
end Kn
/-! H10 -/
set_option maxHeartbeats 2000000
namespace Kn
open PySem PySem.Spec PyProof.Rows L2
theorem sc__law_knotted : FnScope ["_law_bag_here", "_law_some", "_law_rows", "_law_many", "_law_row", "_law_at"] ["_law_bag_here"] (defScope s__law_knotted) := ⟨rfl, rfl, rfl, by decide +kernel, rfl, by decide +kernel, by decide +kernel⟩
def Base : List (List (List Nat)) := [[[1, 2, 0, 3, 4], [0, 1, 3, 4, 2]], [[1, 2, 3, 4, 0], [1, 0, 2, 3, 4]], [[1, 2, 3, 4, 0], [0, 1, 3, 4, 2]], [[1, 2, 3, 4, 0, 5], [5, 1, 4, 3, 2, 0]]]
/-- the rows of the letters -/
def IsKn (rws : List (List Nat)) (n : Nat) : Prop := ∃ pr ∈ Base, (∀ r ∈ pr, r.length = n) ∧ ∃ ext, rws.Perm (pr ++ ext) ∧ (ext = [] ∨ ∃ c, c < n ∧ ext = [List.replicate n c])
/-- what is read as a list of small numbers -/
def valO (o : Option HO) : List Nat := match o with
  | some (.lst xs) => xs.map fun x => match x with
    | .int i => i.toNat
    | _ => 0
  | _ => []
def valL (H : Hp) (v : V) : List Nat := match v with
  | .ref a => valO (H a)
  | _ => []
theorem valL_of {H : Hp} {a : Addr} {r : List Nat} (h : H a = some (.lst (tI r))) : valL H (.ref a) = r := by
  show valO (H a) = r
  rw [h]
  show (tI r).map _ = r
  unfold tI
  rw [List.map_map]
  exact (List.map_congr_left fun x _ => rfl).trans (List.map_id r)
/-- lists of small numbers, one by one -/
def LL (H : Hp) (vs : List V) (rows : List (List Nat)) : Prop := rows = vs.map (valL H) ∧ ∀ v ∈ vs, ∃ a r, v = .ref a ∧ H a = some (.lst (tI r))
theorem LL.nil {H : Hp} : LL H [] [] := ⟨rfl, fun v h => (List.not_mem_nil h).elim⟩
theorem LL.len {H : Hp} {vs : List V} {rows : List (List Nat)} (h : LL H vs rows) : vs.length = rows.length := by rw [h.1, List.length_map]
theorem LL.keep {H H' : Hp} {vs : List V} {rows : List (List Nat)} (h : LL H vs rows) (k : ∀ a r, V.ref a ∈ vs → H a = some (.lst (tI r)) → H' a = some (.lst (tI r))) : LL H' vs rows := by
  refine ⟨?_, fun v hv => ?_⟩
  · rw [h.1]
    refine List.map_congr_left fun v hv => ?_
    obtain ⟨a, r, rfl, ha⟩ := h.2 v hv
    rw [valL_of ha, valL_of (k a r hv ha)]
  · obtain ⟨a, r, rfl, ha⟩ := h.2 v hv
    exact ⟨a, r, rfl, k a r hv ha⟩
theorem LL.snoc {H : Hp} {vs : List V} {rows : List (List Nat)} {a : Addr} {r : List Nat} (h : LL H vs rows) (ha : H a = some (.lst (tI r))) : LL H (vs ++ [.ref a]) (rows ++ [r]) := by
  refine ⟨by rw [List.map_append, ← h.1]; show rows ++ [r] = rows ++ [valL H (.ref a)]; rw [valL_of ha], fun v hv => ?_⟩
  rcases List.mem_append.mp hv with z | z
  · exact h.2 v z
  · exact ⟨a, r, List.mem_singleton.mp z, ha⟩
theorem LL.at {H : Hp} {vs : List V} {rows : List (List Nat)} (h : LL H vs rows) {i : Nat} {r : List Nat} (e : rows[i]? = some r) : ∃ a, vs[i]? = some (.ref a) ∧ H a = some (.lst (tI r)) := by
  rw [h.1, List.getElem?_map] at e
  cases q : vs[i]? with
  | none => rw [q] at e; cases e
  | some v =>
    rw [q] at e
    obtain ⟨a, r', rfl, ha⟩ := h.2 v (List.mem_of_getElem? q)
    have e := Option.some.inj e
    rw [valL_of ha] at e
    exact ⟨a, rfl, by rw [← e]; exact ha⟩
theorem LL.perm {H : Hp} {vs vs' : List V} {rows : List (List Nat)} (h : LL H vs rows) (p : vs'.Perm vs) : ∃ rows', rows'.Perm rows ∧ LL H vs' rows' :=
  ⟨vs'.map (valL H), by rw [h.1]; exact p.map _, rfl, fun v hv => h.2 v (p.mem_iff.mp hv)⟩
theorem Bag.neL {H : Hp} {bg cl a : Addr} {r : List Nat} (b : Bag H bg cl) (h : H a = some (.lst (tI r))) : a ≠ bg := fun e => by
  obtain ⟨ns, i, g, m, d, hb, _⟩ := b
  rw [e, hb] at h
  have z := HO.lst.inj (Option.some.inj h)
  cases r with
  | nil => cases z
  | cons x xs => cases z
theorem LL.flt {K : Fr} {H : Hp} {vs : List V} {rows : List (List Nat)} {bg cl : Addr} (h : LL H vs rows) (b : Bag H bg cl) : ∀ H', KeepX bg H H' → ∀ v ∈ vs, Flt K H' v := fun H' k v hv => by
  obtain ⟨a, r, rfl, ha⟩ := h.2 v hv
  have ha' := k _ _ (b.neL ha) ha
  exact ⟨_, dp_lI (SqL.of ha'), (Bool.and_eq_true_iff.mp (shaped_lI r)).1, by rw [PyData.depth, depth_nats]; exact Nat.le_refl _⟩
def sp_lknotted : Sp := fun vs H Q _ => ∃ (bg cl : Addr), vs = [.ref bg] ∧ Bag H bg cl ∧ ∀ (H' : Hp) (c : Addr) (vgs : List V) (rws : List (List Nat)) (n : Nat), H c = none → KeepX bg H H' → Bag H' bg cl → H' c = some (.lst vgs) → TL H' vgs ((List.range n).map fun a => rws.map fun r => r.getD a 0) → IsKn rws n → Q (.ref c) H'
theorem base_len : ∀ pr ∈ Base, pr.length = 2 ∧ ∃ n, (n = 5 ∨ n = 6) ∧ ∀ r ∈ pr, r.length = n := by
  intro pr h
  unfold Base at h
  simp only [List.mem_cons, List.not_mem_nil, or_false] at h
  rcases h with rfl | rfl | rfl | rfl
  · exact ⟨rfl, 5, .inl rfl, by decide⟩
  · exact ⟨rfl, 5, .inl rfl, by decide⟩
  · exact ⟨rfl, 5, .inl rfl, by decide⟩
  · exact ⟨rfl, 6, .inr rfl, by decide⟩
theorem IsKn.n6 {rws : List (List Nat)} {n : Nat} (h : IsKn rws n) : (n = 5 ∨ n = 6) ∧ 2 ≤ rws.length ∧ rws.length ≤ 3 ∧ ∀ r ∈ rws, r.length = n := by
  obtain ⟨pr, hpr, hl, ext, hp, he⟩ := h
  obtain ⟨h2, n', hn', hl'⟩ := base_len pr hpr
  have hn : n = n' := by
    obtain ⟨r, hr⟩ : ∃ r, r ∈ pr := List.exists_mem_of_length_pos (by omega)
    rw [← hl r hr, hl' r hr]
  subst hn
  refine ⟨hn', ?_, ?_, fun r hr => ?_⟩
  · rw [hp.length_eq, List.length_append]; omega
  · rw [hp.length_eq, List.length_append]
    rcases he with rfl | ⟨c, _, rfl⟩
    · simp only [List.length_nil]; omega
    · simp only [List.length_cons, List.length_nil]; omega
  · rcases List.mem_append.mp (hp.mem_iff.mp hr) with z | z
    · exact hl r z
    · rcases he with rfl | ⟨c, _, rfl⟩
      · exact (List.not_mem_nil z).elim
      · rw [List.mem_singleton.mp z, List.length_replicate]
theorem vals_rows (rows : List (List Nat)) (i : Nat) : (List.range rows.length).map (fun j => V.int (((rows.getD j []).getD i 0 : Nat) : Int)) = tI (rows.map fun r => r.getD i 0) := by
  apply List.ext_getElem?
  intro j
  unfold tI
  rw [List.map_map, List.getElem?_map, List.getElem?_map]
  rcases Nat.lt_or_ge j rows.length with h | h
  · rw [range_get h, List.getElem?_eq_getElem h]
    show some (V.int (((rows.getD j []).getD i 0 : Nat) : Int)) = _
    rw [List.getD_eq_getElem?_getD (l := rows), List.getElem?_eq_getElem h]
    rfl
  · rw [List.getElem?_eq_none (by rw [List.length_range]; exact h), List.getElem?_eq_none h]
    rfl
theorem flat_rep (k : Nat) (c : Nat) : (List.replicate k [V.int (c : Int)]).flatten = tI (List.replicate k c) := by
  induction k with
  | zero => rfl
  | succ k ih =>
    rw [List.replicate_succ, List.flatten_cons, ih, List.replicate_succ, tI_cons]
    rfl
section
variable {P : Program} {w : World} {K : Fr} {mg : Str → Option Value} {base : Heap} {fd : FuncData} {f CM : Addr}
theorem ok_lknotted (F0 : FnP K "_law_knotted" s__law_knotted f fd) (T : Bt mg) (F__law_pull : Fo P w K mg base "_law_pull" ["_law_bag_here", "_law_sides"] 1 sp_lpull) (F__law_of : Fo P w K mg base "_law_of" ["_law_bag_here", "_law_some"] 2 sp_lof) (F__law_mixed : Fo P w K mg base "_law_mixed" ["_law_bag_here", "_law_some"] 2 (sp_lmix K)) :
    FnOk P w K mg base CX0 3 f fd ["_law_bag_here"] sp_lknotted := by
  refine F0.ok sc__law_knotted (fun vs H Q E h => ?_) (fun cdv A outer s H vs Q E hr h => ?_)
  · obtain ⟨bg, cl, rfl, _⟩ := h
    rfl
  · obtain ⟨bg, cl, rfl, hB, q⟩ := h
    refine ⟨_, PSs.nox (pss_cons (ps_set (i := 1) sc__law_knotted.nd rfl (Or.inl rfl) (pe_lst (pa_cons (pe_lst (pa_cons (pe_lst (pa_cons pe_int (pa_cons pe_int (pa_cons pe_int (pa_cons pe_int (pa_cons pe_int pa_nil)))))) (pa_cons (pe_lst (pa_cons pe_int (pa_cons pe_int (pa_cons pe_int (pa_cons pe_int (pa_cons pe_int pa_nil)))))) pa_nil))) (pa_cons (pe_lst (pa_cons (pe_lst (pa_cons pe_int (pa_cons pe_int (pa_cons pe_int (pa_cons pe_int (pa_cons pe_int pa_nil)))))) (pa_cons (pe_lst (pa_cons pe_int (pa_cons pe_int (pa_cons pe_int (pa_cons pe_int (pa_cons pe_int pa_nil)))))) pa_nil))) (pa_cons (pe_lst (pa_cons (pe_lst (pa_cons pe_int (pa_cons pe_int (pa_cons pe_int (pa_cons pe_int (pa_cons pe_int pa_nil)))))) (pa_cons (pe_lst (pa_cons pe_int (pa_cons pe_int (pa_cons pe_int (pa_cons pe_int (pa_cons pe_int pa_nil)))))) pa_nil))) (pa_cons (pe_lst (pa_cons (pe_lst (pa_cons pe_int (pa_cons pe_int (pa_cons pe_int (pa_cons pe_int (pa_cons pe_int (pa_cons pe_int pa_nil))))))) (pa_cons (pe_lst (pa_cons pe_int (pa_cons pe_int (pa_cons pe_int (pa_cons pe_int (pa_cons pe_int (pa_cons pe_int pa_nil))))))) pa_nil))) pa_nil))))))
  (pss_cons (ps_set (i := 2) sc__law_knotted.nd rfl (by first | exact Or.inr rfl | exact Or.inl rfl) (pe_lc (own := [("_law_row", 4)]) (g := gName 4) (tt := tYes) rfl sc__law_knotted.nd (piL K (pc F__law_of hr (by rfl) (pa_cons (pv 0) (pa_cons (pv 1) pa_nil))))
  (blkOk_by (N := ["_law_bag_here", "_law_some", "_law_rows", "_law_many", "_law_row", "_law_at"]) (sc := defScope s__law_knotted) (by decide +kernel)) (fun _ _ _ _ _ => pg_name (i := 4) sc__law_knotted.nd rfl (by first | exact Or.inl rfl | exact Or.inr rfl)) (fun _ _ _ _ _ => pts_nil) (fun _ _ _ _ _ => (pe_callTy (callListOf K) (by rfl) T.list (by decide +kernel) (pa_cons (pv 4) pa_nil)))))
  (pss_cons (ps_set (i := 3) sc__law_knotted.nd rfl (Or.inl rfl) (pe_callB (callLenSeq K) (by rfl) T.len PySem.boot_len (pa_cons (pe_ix (ixL K) (pv 2) pe_int (fun _ _ => rfl)) pa_nil)))
  (pss_cons (ps_if (pt_cmpR op_eq (pc F__law_pull hr (by rfl) (pa_cons (pv 0) (pa_cons pe_int pa_nil))) pe_int (nomark _)) (pss_one (ps_expr (pe_bm PySem.F.plainAttrs_list PySem.F.slot_list_append PySem.F.type_list_append mt_append (pv 2) (pa_cons (pe_op op_rep (pe_lst (pa_cons (pc F__law_pull hr (by rfl) (pa_cons (pv 0) (pa_cons (pv 3) pa_nil))) pa_nil)) (pv 3)) pa_nil)))) pss_nil)
  (pss_cons (ps_set (i := 2) sc__law_knotted.nd rfl (by first | exact Or.inr rfl | exact Or.inl rfl) (pc F__law_mixed hr (by rfl) (pa_cons (pv 0) (pa_cons (pv 2) pa_nil))))
  (pss_one (ps_ret (pe_lc (own := [("_law_at", 5)]) (g := gName 5) (tt := tYes) rfl sc__law_knotted.nd (pi_range1 (by rfl) T.range (pa_cons (pv 3) pa_nil))
  (blkOk_by (N := ["_law_bag_here", "_law_some", "_law_rows", "_law_many", "_law_row", "_law_at"]) (sc := defScope s__law_knotted) (by decide +kernel)) (fun _ _ _ _ _ => pg_name (i := 5) sc__law_knotted.nd rfl (by first | exact Or.inl rfl | exact Or.inr rfl)) (fun _ _ _ _ _ => pts_nil) (fun _ _ _ _ _ => (pe_callTy (callTupOf K) (by rfl) T.tuple (by decide +kernel) (pa_cons (pe_lc (own := [("_law_row", 4)]) (g := gName 4) (tt := tYes) rfl sc__law_knotted.nd (piL K (pv 2))
  (blkOk_by (N := ["_law_bag_here", "_law_some", "_law_rows", "_law_many", "_law_row", "_law_at"]) (sc := ({ kind := .function, names := [(".0", .local), ("_law_at", .cell), ("tuple", .globalImplicit), ("_law_rows", .cell)], isGenerator := false, isCoroutine := false } : Scope)) (by decide +kernel)) (fun _ _ _ _ _ => pg_name (i := 4) sc__law_knotted.nd rfl (by first | exact Or.inl rfl | exact Or.inr rfl)) (fun _ _ _ _ _ => pts_nil) (fun _ _ _ _ _ => (pe_ix (ixL K) (pv 4) (pv 5) (fun _ _ => rfl)))) pa_nil))))))))))), ?_⟩
    refine seq_intro (fun σ' H' => ∃ b xs, σ' = [some (.ref bg), some (.ref b), none, none, none, none] ∧ KeepX bg H H' ∧ Bag H' bg cl ∧ b ≠ bg ∧ H' b = some (.lst xs) ∧ xs.length = 4 ∧ ∀ (i : Nat) (v : V), xs[i]? = some v → ∃ pr ∈ Base, ∃ p vs', v = .ref p ∧ p ≠ bg ∧ H' p = some (.lst vs') ∧ LL H' vs' pr) ?_ (fun rest1 => ?_)
    rotate_left
    · refine ⟨szl (by show 5 ≤ 1000000; decide), fun a1 n1 => ⟨szl (by show 5 ≤ 1000000; decide), fun a2 n2 => ⟨szl (by show 2 ≤ 1000000; decide), fun b1 n3 => ⟨szl (by show 5 ≤ 1000000; decide), fun a3 n4 => ⟨szl (by show 5 ≤ 1000000; decide), fun a4 n5 => ⟨szl (by show 2 ≤ 1000000; decide), fun b2 n6 => ⟨szl (by show 5 ≤ 1000000; decide), fun a5 n7 => ⟨szl (by show 5 ≤ 1000000; decide), fun a6 n8 => ⟨szl (by show 2 ≤ 1000000; decide), fun b3 n9 => ⟨szl (by show 6 ≤ 1000000; decide), fun a7 n10 => ⟨szl (by show 6 ≤ 1000000; decide), fun a8 n11 => ⟨szl (by show 2 ≤ 1000000; decide), fun b4 n12 => ⟨szl (by show 4 ≤ 1000000; decide), fun c n13 => ?_⟩⟩⟩⟩⟩⟩⟩⟩⟩⟩⟩⟩⟩
      have S1 := same_upd (o := .lst (tI [1, 2, 0, 3, 4])) n1
      have S2 := same_upd (o := .lst (tI [0, 1, 3, 4, 2])) n2
      have S3 := same_upd (o := .lst [.ref a1, .ref a2]) n3
      have S4 := same_upd (o := .lst (tI [1, 2, 3, 4, 0])) n4
      have S5 := same_upd (o := .lst (tI [1, 0, 2, 3, 4])) n5
      have S6 := same_upd (o := .lst [.ref a3, .ref a4]) n6
      have S7 := same_upd (o := .lst (tI [1, 2, 3, 4, 0])) n7
      have S8 := same_upd (o := .lst (tI [0, 1, 3, 4, 2])) n8
      have S9 := same_upd (o := .lst [.ref a5, .ref a6]) n9
      have S10 := same_upd (o := .lst (tI [1, 2, 3, 4, 0, 5])) n10
      have S11 := same_upd (o := .lst (tI [5, 1, 4, 3, 2, 0])) n11
      have S12 := same_upd (o := .lst [.ref a7, .ref a8]) n12
      have S13 := same_upd (o := .lst [.ref b1, .ref b2, .ref b3, .ref b4]) n13
      have T12 := S13
      have T11 := S12.trans T12
      have T10 := S11.trans T11
      have T9 := S10.trans T10
      have T8 := S9.trans T9
      have T7 := S8.trans T8
      have T6 := S7.trans T7
      have T5 := S6.trans T6
      have T4 := S5.trans T5
      have T3 := S4.trans T4
      have T2 := S3.trans T3
      have T1 := S2.trans T2
      have T0 := S1.trans T1
      have U0 := Same.refl H
      have U1 := U0.trans S1
      have U2 := U1.trans S2
      have U3 := U2.trans S3
      have U4 := U3.trans S4
      have U5 := U4.trans S5
      have U6 := U5.trans S6
      have U7 := U6.trans S7
      have U8 := U7.trans S8
      have U9 := U8.trans S9
      have U10 := U9.trans S10
      have U11 := U10.trans S11
      have U12 := U11.trans S12
      refine rest1 _ _ ⟨c, [.ref b1, .ref b2, .ref b3, .ref b4], rfl, KeepX.of T0, hB.same T0, hB.ne (U12.free n13), upd_same, rfl, fun i v hv => ?_⟩
      match i, hv with
      | 0, hv =>
        cases hv
        exact ⟨[[1, 2, 0, 3, 4], [0, 1, 3, 4, 2]], by decide, b1, _, rfl, hB.ne (U2.free n3), (T3 _ _ upd_same), (LL.nil.snoc (T1 _ _ upd_same)).snoc (T2 _ _ upd_same)⟩
      | 1, hv =>
        cases hv
        exact ⟨[[1, 2, 3, 4, 0], [1, 0, 2, 3, 4]], by decide, b2, _, rfl, hB.ne (U5.free n6), (T6 _ _ upd_same), (LL.nil.snoc (T4 _ _ upd_same)).snoc (T5 _ _ upd_same)⟩
      | 2, hv =>
        cases hv
        exact ⟨[[1, 2, 3, 4, 0], [0, 1, 3, 4, 2]], by decide, b3, _, rfl, hB.ne (U8.free n9), (T9 _ _ upd_same), (LL.nil.snoc (T7 _ _ upd_same)).snoc (T8 _ _ upd_same)⟩
      | 3, hv =>
        cases hv
        exact ⟨[[1, 2, 3, 4, 0, 5], [5, 1, 4, 3, 2, 0]], by decide, b4, _, rfl, hB.ne (U11.free n12), (T12 _ _ upd_same), (LL.nil.snoc (T10 _ _ upd_same)).snoc (T11 _ _ upd_same)⟩
    rintro σ1 H1 ⟨b, xs, rfl, k1, hB1, hbne, hb, hxl, hxs⟩
    -- rows = [list(row) for row in of(bag, some)]
    refine ⟨_, rfl, _, rfl, bg, cl, b, xs, rfl, hB1, hbne, hb, by omega, by omega, fun H2 i v hv k2 hB2 => ?_⟩
    obtain ⟨pr, hpr, p, vs', rfl, hpne, hp, hLL⟩ := hxs i v hv
    obtain ⟨hpr2, n, hn56, hprn⟩ := base_len pr hpr
    have hp2 := k2 _ _ hpne hp
    have hLL2 : LL H2 vs' pr := hLL.keep fun a r _ ha => k2 _ _ (hB1.neL ha) ha
    have k02 := k1.trans k2
    refine ⟨p, rfl, ⟨_, SqL.of hp2⟩, fun D nD => ?_⟩
    refine lc_wk (wk_lst (K := K) (SqL.of hp2)) (fun i H' => Same H2 H' ∧ i ≤ vs'.length ∧ ∃ acc, H' D = some (.lst acc) ∧ acc.length = i ∧ (∀ a, V.ref a ∈ acc → a ≠ D) ∧ LL H' acc (pr.take i)) ⟨same_upd nD, Nat.zero_le _, [], upd_same, rfl, fun a ha => (List.not_mem_nil ha).elim, LL.nil⟩ (fun i H' h => h.1) ?_ ?_
    · rintro i x Ha Hb hi ⟨sa, _, acc, hD, hal, hane, hacc⟩ sab hx
      obtain ⟨rw', hrw⟩ : ∃ r, pr[i]? = some r := ⟨_, List.getElem?_eq_getElem (by rw [← hLL2.len]; exact hi)⟩
      obtain ⟨a, ha1, ha2⟩ := hLL2.at hrw
      rw [ha1] at hx
      cases hx
      have sb := sa.trans sab
      refine ⟨rfl, ?_⟩
      refine ⟨_, rfl, a, _, rfl, .inl (SqL.of (sb _ _ ha2)), fun l nl => ?_⟩
      have hDb := sab _ _ hD
      have hlD : l ≠ D := fun e => by rw [e, hDb] at nl; cases nl
      have sl := same_upd (o := .lst (tI rw')) nl
      refine ⟨acc, sl _ _ hDb, szl' (by rw [hal]; have := hLL2.len; omega), (sb.trans sl).upd' nD, hi, _, upd_same, by rw [List.length_append, hal]; rfl, fun c hc => ?_, ?_⟩
      · rcases List.mem_append.mp hc with z | z
        · exact hane c z
        · cases List.mem_singleton.mp z
          exact hlD
      · have e : pr.take (i + 1) = pr.take i ++ [rw'] := by rw [List.take_succ, hrw]; rfl
        rw [e]
        refine LL.snoc (hacc.keep fun c r hc hcr => ?_) ?_
        · rw [upd_ne (hane c hc)]
          exact sl _ _ (sab _ _ hcr)
        · rw [upd_ne hlD]
          exact upd_same
    · rintro H3 ⟨s3, _, acc, hD, hal, hane, hacc⟩
      have hpl : vs'.length = 2 := by rw [hLL2.len]; exact hpr2
      rw [List.take_of_length_le (by omega)] at hacc
      have k03 := k02.trans (KeepX.of s3)
      have hB3 := hB2.same s3
      have hDbg : D ≠ bg := hB2.ne nD
      -- many = len(rows[0])
      obtain ⟨r0, hr0⟩ : ∃ r, pr[0]? = some r := ⟨_, List.getElem?_eq_getElem (by omega)⟩
      obtain ⟨a0, ha0, ha02⟩ := hacc.at hr0
      have hr0n : r0.length = n := hprn r0 (List.mem_of_getElem? hr0)
      refine ⟨_, rfl, D, acc, 0, .ref a0, rfl, rfl, SqL.of hD, atI_nat (j := 0) ha0, a0, _, rfl, .inl (SqL.of ha02), ?_⟩
      rw [tI_len, hr0n]
      dsimp only
      refine seq_intro (fun σ' H' => ∃ acc rws, σ' = [some (.ref bg), some (.ref b), some (.ref D), some (.int (n : Int)), none, none] ∧ KeepX bg H H' ∧ Bag H' bg cl ∧ H' D = some (.lst acc) ∧ LL H' acc rws ∧ IsKn rws n) ?_ (fun rest2 => ?_)
      · rintro σ' H4 ⟨acc, rws, rfl, k4, hB4, hD4, hL4, hK⟩
        obtain ⟨hn6, hr2, hr3, hrl⟩ := hK.n6
        refine ⟨_, rfl, _, rfl, bg, cl, D, acc, rfl, hB4, hDbg, hD4, by rw [hL4.len]; omega, hL4.flt hB4, fun H6 c ys nc k6 hB6 hc6 hp6 => ?_⟩
        obtain ⟨rws', hpm, hL5⟩ := hL4.perm hp6
        have hL6 : LL H6 ys rws' := hL5.keep fun a r _ ha => k6 _ _ (hB4.neL ha) ha
        have hK' : IsKn rws' n := by
          obtain ⟨pr, h1, h2, ext, h3, h4⟩ := hK
          exact ⟨pr, h1, h2, ext, hpm.trans h3, h4⟩
        obtain ⟨_, hr2', hr3', hrl'⟩ := hK'.n6
        have k06 := k4.trans k6
        refine ⟨_, rfl, (n : Int), rfl, by omega, by omega, fun D2 nD2 => ?_⟩
        refine lc_map (wk_rng (H0 := H6)) nD2 (by omega) (fun i σ2 H' => i < n ∧ Same H6 H' ∧ σ2 = [some (.ref bg), some (.ref b), some (.ref c), some (.int (n : Int)), none, some (.int (i : Int))]) (fun i y H' => Tup H' y (rws'.map fun r => r.getD i 0)) ?_ ?_ ?_ ?_
        · rintro i y Ha Hb _ t h
          exact h.tame t
        · rintro i y H' Q' hi sm rfl kk
          rw [show (0 : Int) + (i : Int) = (i : Int) by omega]
          exact kk _ rfl ⟨by omega, sm, rfl⟩
        · rintro i σ2 H7 hi s7 ⟨hin, _, rfl⟩ Q' q'
          refine ⟨_, rfl, c, rfl, ⟨_, SqL.of (s7 _ _ hc6)⟩, fun D3 nD3 => ?_⟩
          refine lc_vals (fun j => V.int (((rws'.getD j []).getD i 0 : Nat) : Int)) (wk_lst (K := K) (SqL.of (s7 _ _ hc6))) nD3 (by rw [hL6.len]; omega) (fun j σ3 H' => ∃ a r, rws'[j]? = some r ∧ H' a = some (.lst (tI r)) ∧ σ3 = [some (.ref bg), some (.ref b), some (.ref c), some (.int (n : Int)), some (.ref a), some (.int (i : Int))]) (fun j x H' Q' hj sm hx kk => ?_) ?_ ?_
          · obtain ⟨r, hr'⟩ : ∃ r, rws'[j]? = some r := ⟨_, List.getElem?_eq_getElem (by rw [← hL6.len]; exact hj)⟩
            obtain ⟨a, ha1, ha2⟩ := hL6.at hr'
            rw [ha1] at hx
            cases hx
            exact kk _ rfl ⟨a, r, hr', sm _ _ (s7 _ _ ha2), rfl⟩
          · rintro j σ3 H' hj sm ⟨a, r, h1, h2, rfl⟩ Q2 q2
            refine ⟨_, rfl, _, rfl, a, tI r, (i : Int), .int ((r.getD i 0 : Nat) : Int), rfl, rfl, SqL.of h2, atI_nat (tI_at (some_getD (by rw [hrl' r (List.mem_of_getElem? h1)]; exact hin))), q2 _ _ (Same.refl _) ?_⟩
            rw [show rws'.getD j [] = r by rw [List.getD_eq_getElem?_getD, h1]; rfl]
          · intro H8 s8 hl8
            rw [hL6.len, vals_rows] at hl8
            exact ⟨D3, _, rfl, .inl ⟨SqL.of hl8, fun p np => q' _ _ (s8.trans (same_upd np)) ⟨p, rfl, upd_same⟩⟩⟩
        · intro zs H7 s7 hD7 hzl hzr
          refine q H7 D2 zs rws' n (k06.none (hB6.ne nD2) nD2) (k06.trans (KeepX.of s7)) (hB6.same s7) hD7 ⟨by rw [hzl, List.length_map, List.length_range]; omega, fun i y e => ⟨_, ?_, hzr i y e⟩⟩ hK'
          have hi : i < n := by
            have := (List.getElem?_eq_some_iff.mp e).1
            omega
          rw [List.getElem?_map, range_get hi]
          rfl
      · refine ⟨_, rfl, bg, cl, 2, rfl, hB3, by decide, by decide, fun H4 m hm k4 hB4 => ⟨rfl, _, rfl, ?_⟩⟩
        have hD4 := k4 _ _ hDbg hD
        have hL4 : LL H4 acc pr := hacc.keep fun a r _ ha => k4 _ _ (hB3.neL ha) ha
        refine ite2 (fun _ => ?_) (fun _ => ?_)
        · refine ⟨.ref D, rfl, .inl ⟨rfl, _, SqL.of hD4⟩, _, rfl, _, rfl, bg, cl, n, rfl, hB4, by omega, by omega, fun H5 x hx k5 hB5 => ⟨szl (by show 1 ≤ 1000000; decide), fun l nl => ⟨_, rfl, l, (n : Int), _, rfl, rfl, upd_same, by omega, by omega, szl (by show 1 * (n : Int).toNat ≤ 1000000; omega), fun p np => ?_⟩⟩⟩
          have hD5 := k5 _ _ hDbg hD4
          have S1 := same_upd (o := .lst [.int (x : Int)]) nl
          have e0 : (List.replicate (n : Int).toNat [V.int (x : Int)]).flatten = tI (List.replicate n x) := by
            rw [show ((n : Int)).toNat = n by omega]
            exact flat_rep n x
          rw [e0]
          have S2 := same_upd (o := .lst (tI (List.replicate n x))) np
          have S12 := S1.trans S2
          have hD6 := S12 _ _ hD5
          have hpD : p ≠ D := fun e => by rw [e, S1 _ _ hD5] at np; cases np
          have nDH : H D = none := k02.none hDbg nD
          refine ⟨D, acc, .ref p, rfl, rfl, hD6, szl' (by rw [hal]; omega), ?_⟩
          refine rest2 _ _ ⟨acc ++ [.ref p], pr ++ [List.replicate n x], rfl, ((k03.trans (k4.trans k5)).trans (KeepX.of S12)).updn nDH, ?_, upd_same, LL.snoc (hL4.keep fun a r ha har => ?_) ?_, pr, hpr, hprn, _, List.Perm.refl _, .inr ⟨x, hx, rfl⟩⟩
          · obtain ⟨ns, i, g, m, d, h1, h2, h⟩ := hB5.same S12
            obtain ⟨ns0, _, _, _, _, _, h20, _⟩ := hB
            exact ⟨ns, i, g, m, d, by rw [upd_ne hDbg.symm]; exact h1, by rw [upd_ne (ne_of_none h20 nDH)]; exact h2, h⟩
          · rw [upd_ne (hane a ha)]
            exact S12 _ _ (k5 _ _ (hB4.neL har) har)
          · rw [upd_ne hpD]
            exact upd_same
        · exact rest2 _ _ ⟨acc, pr, rfl, k03.trans k4, hB4, hD4, hL4, pr, hpr, hprn, [], by rw [List.append_nil], .inl rfl⟩
end
end Kn
/-! H11 -/
set_option maxHeartbeats 2000000
namespace Kn
open PySem PySem.Spec PyProof.Rows L2
theorem sc__law_renamed : FnScope ["_law_bag_here", "_law_goals", "_law_begin", "_law_many", "_law_names", "_law_rows", "_law_at", "_law_one"] ["_law_bag_here", "_law_goals", "_law_begin"] (defScope s__law_renamed) := ⟨rfl, rfl, rfl, by decide +kernel, rfl, by decide +kernel, by decide +kernel⟩
theorem sc__law_primes : FnScope ["_law_bag_here", "_law_some", "_law_one"] ["_law_bag_here"] (defScope s__law_primes) := ⟨rfl, rfl, rfl, by decide +kernel, rfl, by decide +kernel, by decide +kernel⟩
/-- the rows of the states renamed -/
structure Ren (gs : List (List Nat)) (k : Nat) (nu : List Nat) (rows : List (List Nat)) (N : Nat) : Prop where
  perm : nu.Perm (List.range N)
  lo : gs.length ≤ N
  hi : N ≤ gs.length + 2
  len : rows.length = N
  at_ : ∀ j, j < gs.length → rows[nu.getD j 0]? = some ((gs.getD j []).map fun s => nu.getD s 0)
  ok : ∀ r ∈ rows, r.length = k ∧ ∀ x ∈ r, x < N
def sp_lren : Sp := fun vs H Q _ => ∃ (bg cl b : Addr) (vgs : List V) (gs : List (List Nat)) (k bn : Nat), vs = [.ref bg, .ref b, .int (bn : Int)] ∧ Bag H bg cl ∧ b ≠ bg ∧ H b = some (.lst vgs) ∧ TL H vgs gs ∧ 1 ≤ gs.length ∧ gs.length ≤ 6 ∧ 1 ≤ k ∧ k ≤ 3 ∧ (∀ g ∈ gs, g.length = k ∧ ∀ x ∈ g, x < gs.length) ∧ bn < gs.length ∧
  ∀ (H' : Hp) (t c : Addr) (vrs : List V) (nu : List Nat) (rows : List (List Nat)) (N : Nat), H c = none → KeepX bg H H' → Bag H' bg cl → H' t = some (.tup [.ref c, .int ((nu.getD bn 0 : Nat) : Int)]) → H' c = some (.lst vrs) → TL H' vrs rows → Ren gs k nu rows N → Q (.ref t) H'
def sp_lprimes : Sp := fun vs H Q _ => ∃ (bg cl : Addr), vs = [.ref bg] ∧ Bag H bg cl ∧ ∀ (H' : Hp) (c : Addr) (ps : List Nat), H c = none → KeepX bg H H' → Bag H' bg cl → H' c = some (.lst (tI ps)) → ps.length ≤ 4 → (∀ p ∈ ps, p = 2 ∨ p = 3 ∨ p = 5) → Q (.ref c) H'
theorem Bag.keep {H H' : Hp} {bg cl x : Addr} (b : Bag H bg cl) (k : KeepX x H H') (h1 : bg ≠ x) (h2 : cl ≠ x) : Bag H' bg cl := by
  obtain ⟨ns, i, g, m, d, e1, e2, h⟩ := b
  exact ⟨ns, i, g, m, d, k _ _ h1 e1, k _ _ h2 e2, h⟩
theorem Bag.neC {H : Hp} {bg cl p : Addr} (b : Bag H bg cl) (np : H p = none) : cl ≠ p := by
  obtain ⟨ns, i, g, m, d, e1, e2, h⟩ := b
  exact ne_of_none e2 np
theorem perm_tI {ys : List V} {ns : List Nat} (h : ys.Perm (tI ns)) : ∃ nu : List Nat, ys = tI nu ∧ nu.Perm ns := by
  refine ⟨ys.map fun v => match v with
    | .int i => i.toNat
    | _ => 0, ?_, ?_⟩
  · unfold tI
    rw [List.map_map]
    refine (List.map_id ys).symm.trans (List.map_congr_left fun v hv => ?_)
    obtain ⟨n, _, rfl⟩ := List.mem_map.mp (h.mem_iff.mp hv)
    rfl
  · have h2 := h.map fun v => match v with
      | V.int i => i.toNat
      | _ => 0
    have e : (tI ns).map (fun v => match v with
      | V.int i => i.toNat
      | _ => 0) = ns := by
      unfold tI
      rw [List.map_map]
      exact (List.map_congr_left fun x _ => rfl).trans (List.map_id ns)
    rw [e] at h2
    exact h2
theorem cut_take (l : List Nat) (x : Nat) : cutV (tI l) none (some (x : Int)) = tI (l.take x) := by
  unfold cutV
  rw [HT.sIx_none, HT.sIx_nat, Nat.sub_zero, List.drop_zero, tI_len]
  unfold tI
  rw [← List.map_take]
  congr 1
  rcases Nat.le_total x l.length with h | h
  · rw [Nat.min_eq_left h]
  · rw [Nat.min_eq_right h, List.take_of_length_le h, List.take_of_length_le (Nat.le_refl _)]
def noH : Hp := fun _ => none
theorem same_no (H : Hp) : Same noH H := fun b x e => by cases e
theorem vals_ren (nu g : List Nat) : (List.range g.length).map (fun j => V.int ((nu.getD (g.getD j 0) 0 : Nat) : Int)) = tI (g.map fun s => nu.getD s 0) := vals_of (fun s => nu.getD s 0) g
section
variable {P : Program} {w : World} {K : Fr} {mg : Str → Option Value} {base : Heap} {fd : FuncData} {f CM : Addr}
theorem ok_lren (F0 : FnP K "_law_renamed" s__law_renamed f fd) (T : Bt mg) (F__law_pull : Fo P w K mg base "_law_pull" ["_law_bag_here", "_law_sides"] 1 sp_lpull) (F__law_mixed : Fo P w K mg base "_law_mixed" ["_law_bag_here", "_law_some"] 2 (sp_lmix K)) :
    FnOk P w K mg base CX0 3 f fd ["_law_bag_here", "_law_goals", "_law_begin"] sp_lren := by
  refine F0.ok sc__law_renamed (fun vs H Q E h => ?_) (fun cdv A outer s H vs Q E hr h => ?_)
  · obtain ⟨bg, cl, b, vgs, gs, k, bn, rfl, _⟩ := h
    rfl
  · obtain ⟨bg, cl, b, vgs, gs, k, bn, rfl, hB, hbne, hb, htl, hn1, hn6, hk1, hk3, hgs, hbn, q⟩ := h
    refine ⟨_, PSs.nox (pss_cons (ps_set (i := 3) sc__law_renamed.nd rfl (Or.inl rfl) (pe_op op_add (pe_callB (callLenSeq K) (by rfl) T.len PySem.boot_len (pa_cons (pv 1) pa_nil)) (pc F__law_pull hr (by rfl) (pa_cons (pv 0) (pa_cons pe_int pa_nil)))))
  (pss_cons (ps_set (i := 4) sc__law_renamed.nd rfl (by first | exact Or.inr rfl | exact Or.inl rfl) (pc F__law_mixed hr (by rfl) (pa_cons (pv 0) (pa_cons (pe_listRg rfl (by rfl) T.list (prg_1 (by rfl) T.range (pv 3))) pa_nil))))
  (pss_cons (ps_setLc (i := 5) (own := [("_law_at", 6)]) (g := gName 6) (tt := tYes) rfl sc__law_renamed.nd rfl rfl (sw_true rfl rfl rfl (by decide +kernel)) (pi_range1 (by rfl) T.range (pa_cons (pv 3) pa_nil))
  (blkOk_by (N := ["_law_bag_here", "_law_goals", "_law_begin", "_law_many", "_law_names", "_law_rows", "_law_at", "_law_one"]) (sc := defScope s__law_renamed) (by decide +kernel)) (fun _ _ _ _ _ => pg_name (i := 6) sc__law_renamed.nd rfl (Or.inl rfl)) (fun _ _ _ _ _ => pts_nil) (fun _ _ _ _ _ => (pe_callTy (callTupOf K) (by rfl) T.tuple (by decide +kernel) (pa_cons (pe_op op_rep (pe_lst (pa_cons (pe_ix (ixL K) (pv 4) pe_int (fun _ _ => rfl)) pa_nil)) (pe_callB (callLenSeq K) (by rfl) T.len PySem.boot_len (pa_cons (pe_ix (ixL K) (pv 1) pe_int (fun _ _ => rfl)) pa_nil))) pa_nil))))
  (pss_cons (ps_for PassesOwn.never rfl (pi_range1 (by rfl) T.range (pa_cons (pe_callB (callLenSeq K) (by rfl) T.len PySem.boot_len (pa_cons (pv 1) pa_nil)) pa_nil)) (pg_name (i := 6) sc__law_renamed.nd rfl (Or.inl rfl))
  (pss_one (ps_asg (pe_callTy (callTupOf K) (by rfl) T.tuple (by decide +kernel) (pa_cons (pe_lc (own := [("_law_one", 7)]) (g := gName 7) (tt := tYes) rfl sc__law_renamed.nd (piT K (pe_ix (ixL K) (pv 1) (pv 6) (fun _ _ => rfl)))
  (blkOk_by (N := ["_law_bag_here", "_law_goals", "_law_begin", "_law_many", "_law_names", "_law_rows", "_law_at", "_law_one"]) (sc := defScope s__law_renamed) (by decide +kernel)) (fun _ _ _ _ _ => pg_name (i := 7) sc__law_renamed.nd rfl (Or.inl rfl)) (fun _ _ _ _ _ => pts_nil) (fun _ _ _ _ _ => (pe_ix (ixL K) (pv 4) (pv 7) (fun _ _ => rfl)))) pa_nil)) (pg_sub (pv 5) (pe_ix (ixL K) (pv 4) (pv 6) (fun _ _ => rfl)) set_list))))
  (pss_one (ps_ret (pe_tup (pa_cons (pv 5) (pa_cons (pe_ix (ixL K) (pv 4) (pv 2) (fun _ _ => rfl)) pa_nil))))))))), ?_⟩
    have hvl := htl.1
    refine ⟨_, rfl, b, vgs, rfl, .inl (SqL.of hb), _, rfl, bg, cl, 3, rfl, hB, by decide, by decide, fun H1 x hx k1 hB1 => ⟨_, _, rfl, rfl, ?_⟩⟩
    dsimp only
    obtain ⟨N, hN⟩ : ∃ N : Nat, N = gs.length + x := ⟨_, rfl⟩
    rw [show ((vgs.length : Int) + (x : Int)) = (N : Int) by omega]
    -- names
    refine ⟨_, rfl, _, rfl, (N : Int), rfl, RgOk.of_le (by omega) (by omega) (by omega) (by omega), fun p np => ?_⟩
    rw [rg_still]
    have s1 : Same H1 (upd H1 p (.lst (tI (still N)))) := same_upd np
    refine ⟨bg, cl, p, _, rfl, hB1.same s1, (hB1.ne np), upd_same, by rw [tI_len]; unfold still; rw [List.length_range]; omega, fun H' k' v hv => ?_, fun H2 c ys nc k2 hB2 hc hp => ?_⟩
    · obtain ⟨y, _, rfl⟩ := List.mem_map.mp hv
      exact ⟨.int (y : Int), .int _, by simp [PyData.canLay0], by simp [PyData.depth]⟩
    obtain ⟨nu, rfl, hnu⟩ := perm_tI hp
    have hnu : nu.Perm (List.range N) := hnu
    have hnul : nu.length = N := by rw [hnu.length_eq, List.length_range]
    have hnulN : ∀ y, y < N → nu[y]? = some (nu.getD y 0) ∧ nu.getD y 0 < N := fun y hy => by
      have e := some_getD (l := nu) (i := y) (by omega)
      exact ⟨e, List.mem_range.mp (hnu.mem_iff.mp (List.mem_of_getElem? e))⟩
    have hnud : nu.Nodup := hnu.nodup_iff.mpr List.nodup_range
    have k02 := (k1.trans (KeepX.of s1)).trans k2
    have hb2 := k02 _ _ hbne hb
    have htl2 := htl.tame (k02.tameB hB)
    have hcbg : c ≠ bg := hB1.ne (s1.free nc)
    -- rows
    refine ⟨_, rfl, (N : Int), rfl, by omega, by omega, fun R nR => ?_⟩
    obtain ⟨g0, hg0⟩ : ∃ g0, gs[0]? = some g0 := ⟨_, List.getElem?_eq_getElem (by omega)⟩
    obtain ⟨vg0, hvg0, ag0, rfl, hag0⟩ := htl2.at hg0
    have hg0k : g0.length = k := (hgs g0 (List.mem_of_getElem? hg0)).1
    have h0N := hnulN 0 (by omega)
    refine lc_map (wk_rng (H0 := H2)) nR (by omega) (fun i σ2 H' => ∃ v6, σ2 = [some (.ref bg), some (.ref b), some (.int (bn : Int)), some (.int (N : Int)), some (.ref c), none, v6, none]) (fun i y H' => Tup H' y (List.replicate k (nu.getD 0 0))) ?_ ?_ ?_ ?_
    · rintro i y Ha Hb _ t h
      exact h.tame t
    · rintro i y H' Q' hi sm rfl kk
      exact kk _ rfl ⟨_, rfl⟩
    · rintro i σ2 H' hi sm ⟨v6, rfl⟩ Q' q'
      refine ⟨_, rfl, c, tI nu, 0, .int ((nu.getD 0 0 : Nat) : Int), rfl, rfl, SqL.of (sm _ _ hc), atI_nat (j := 0) (tI_at h0N.1), szl (by show 1 ≤ 1000000; decide), fun l nl => ?_⟩
      have sl := same_upd (o := .lst [.int ((nu.getD 0 0 : Nat) : Int)]) nl
      have sml := sm.trans sl
      refine ⟨_, rfl, b, vgs, 0, .ref ag0, rfl, rfl, SqL.of (sml _ _ hb2), atI_nat (j := 0) hvg0, ag0, _, rfl, .inr (SqT.of (sml _ _ hag0)), ?_⟩
      rw [tI_len, hg0k]
      refine ⟨l, (k : Int), _, rfl, rfl, upd_same, by omega, by omega, szl (by show 1 * (k : Int).toNat ≤ 1000000; omega), fun p2 np2 => ?_⟩
      have e0 : (List.replicate (k : Int).toNat [V.int ((nu.getD 0 0 : Nat) : Int)]).flatten = tI (List.replicate k (nu.getD 0 0)) := by
        rw [show ((k : Int)).toNat = k by omega]
        exact flat_rep k _
      rw [e0]
      exact ⟨p2, _, rfl, .inl ⟨SqL.of upd_same, fun t nt => q' _ _ (sl.trans ((same_upd np2).trans (same_upd nt))) ⟨t, rfl, upd_same⟩⟩⟩
    · intro vrs H3 s3 hR3 hvrl hvrr
      have htl3 := htl2.same s3
      have hrl : vrs.length = N := by rw [hvrl]; omega
      have nRH : H R = none := k02.none (hB2.ne nR) nR
      have hbgR : bg ≠ R := (hB2.ne nR).symm
      have hcR : c ≠ R := ne_of_none hc nR
      have hbR : b ≠ R := ne_of_none hb2 nR
      have hB3 := hB2.same s3
      -- for at in range(len(goals))
      refine ⟨_, rfl, b, vgs, rfl, .inl (SqL.of (s3 _ _ hb2)), (vgs.length : Int), rfl, by omega, by omega, ?_⟩
      rw [show ((vgs.length : Int)).toNat = gs.length by omega]
      refine for_wk (wk_rng (H0 := noH)) (fun i σ H' => KeepX R H3 H' ∧ ∃ v6 vrs rows, σ = [some (.ref bg), some (.ref b), some (.int (bn : Int)), some (.int (N : Int)), some (.ref c), some (.ref R), v6, none] ∧ H' R = some (.lst vrs) ∧ TL H' vrs rows ∧ rows.length = N ∧ (∀ j, j < i → rows[nu.getD j 0]? = some ((gs.getD j []).map fun s => nu.getD s 0)) ∧ ∀ r ∈ rows, r.length = k ∧ ∀ y ∈ r, y < N)
        ⟨KeepX.refl _ _, none, vrs, List.replicate N (List.replicate k (nu.getD 0 0)), rfl, hR3, ⟨by rw [hrl, List.length_replicate], fun i v e => ⟨_, ?_, hvrr i v e⟩⟩, List.length_replicate, fun j hj => absurd hj (Nat.not_lt_zero _), fun r hr' => ?_⟩ (fun i σ H h => same_no H) ?_ ?_
      · have := (List.getElem?_eq_some_iff.mp e).1
        rw [List.getElem?_replicate, if_pos (by omega)]
      · rw [List.eq_of_mem_replicate hr']
        exact ⟨List.length_replicate, fun y hy => by rw [List.eq_of_mem_replicate hy]; exact h0N.2⟩
      · rintro i y σ H4 H5 hi ⟨k4, v6, vrs, rows, rfl, hR4, ht4, hl4, hat4, hok4⟩ s45 rfl
        rw [show (0 : Int) + (i : Int) = (i : Int) by omega]
        have k5 : KeepX R H3 H5 := k4.trans (KeepX.of s45)
        obtain ⟨g, hg⟩ : ∃ g, gs[i]? = some g := ⟨_, List.getElem?_eq_getElem hi⟩
        obtain ⟨vg, hvg, ag, rfl, hag⟩ := htl3.at hg
        have hgk := hgs g (List.mem_of_getElem? hg)
        have hb5 := k5 _ _ hbR (s3 _ _ hb2)
        have hc5 := k5 _ _ hcR (s3 _ _ hc)
        have hag5 : H5 ag = some (.tup (tI g)) := k5 _ _ (ne_of hag hR3 (fun z => nomatch z)) hag
        have hR5 := s45 _ _ hR4
        have hiN := hnulN i (by omega)
        refine ⟨_, rfl, _, rfl, b, vgs, (i : Int), .ref ag, rfl, rfl, SqL.of hb5, atI_nat hvg, ag, rfl, ⟨_, SqT.of hag5⟩, fun D nD => ?_⟩
        refine lc_vals (fun j => V.int ((nu.getD (g.getD j 0) 0 : Nat) : Int)) (wk_tup (K := K) (SqT.of hag5)) nD (by rw [tI_len]; omega) (fun j σ2 _ => ∃ z : Nat, g[j]? = some z ∧ σ2 = [some (.ref bg), some (.ref b), some (.int (bn : Int)), some (.int (N : Int)), some (.ref c), some (.ref R), some (.int (i : Int)), some (.int (z : Int))]) (fun j z H' Q' hj sm hz kk => ?_) ?_ ?_
        · obtain ⟨z', hz', rfl⟩ := tI_get hz
          exact kk _ rfl ⟨z', hz', rfl⟩
        · rintro j σ2 H' hj sm ⟨z, hz, rfl⟩ Q' q'
          have hzN := hgk.2 z (List.mem_of_getElem? hz)
          refine ⟨_, rfl, _, rfl, c, tI nu, (z : Int), .int ((nu.getD z 0 : Nat) : Int), rfl, rfl, SqL.of (sm _ _ hc5), atI_nat (tI_at (hnulN z (by omega)).1), q' _ _ (Same.refl _) ?_⟩
          rw [getD_of hz]
        · intro H6 s6 hD6
          rw [tI_len, vals_ren] at hD6
          refine ⟨D, _, rfl, .inl ⟨SqL.of hD6, fun t nt => ?_⟩⟩
          have s7 := s6.trans (same_upd (o := .tup (tI (g.map fun s => nu.getD s 0))) nt)
          have hR7 := s7 _ _ hR5
          refine ⟨_, rfl, _, rfl, _, rfl, c, tI nu, (i : Int), .int ((nu.getD i 0 : Nat) : Int), rfl, rfl, SqL.of (s7 _ _ hc5), atI_nat (tI_at hiN.1), R, vrs, ((nu.getD i 0 : Nat) : Int), nu.getD i 0, rfl, rfl, hR7, ?_, ?_⟩
          · have hlv : vrs.length = N := by rw [ht4.1, hl4]
            unfold ixN
            rw [if_pos (by omega), if_pos (by omega)]
            simp
          · have t8 : Tame (upd H6 t (.tup (tI (g.map fun s => nu.getD s 0)))) (upd (upd H6 t (.tup (tI (g.map fun s => nu.getD s 0)))) R (.lst (vrs.set (nu.getD i 0) (.ref t)))) := Tame.upd (Soft.lst hR7)
            have ht7 : TL (upd (upd H6 t (.tup (tI (g.map fun s => nu.getD s 0)))) R (.lst (vrs.set (nu.getD i 0) (.ref t)))) vrs rows := (ht4.same (s45.trans s7)).tame t8
            have hlv : vrs.length = N := by rw [ht4.1, hl4]
            refine ⟨(k5.trans (KeepX.of s7)).upd, _, vrs.set (nu.getD i 0) (.ref t), rows.set (nu.getD i 0) (g.map fun s => nu.getD s 0), rfl, upd_same, ⟨by rw [List.length_set, List.length_set, ht7.1], fun j v e => ?_⟩, by rw [List.length_set]; exact hl4, fun j hj => ?_, fun r hr' => ?_⟩
            · by_cases ej : nu.getD i 0 = j
              · subst ej
                rw [List.getElem?_set_self (by omega)] at e
                cases e
                exact ⟨_, List.getElem?_set_self (by omega), t, rfl, t8.1 _ _ upd_same⟩
              · rw [List.getElem?_set_ne ej] at e ⊢
                exact ht7.2 j v e
            · rcases Nat.lt_or_ge j i with z | z
              · have hne : nu.getD i 0 ≠ nu.getD j 0 := fun e => by
                  have e1 := hiN.1
                  rw [e] at e1
                  have := nodup_get_inj hnud e1 (hnulN j (by omega)).1
                  omega
                rw [List.getElem?_set_ne hne]
                exact hat4 j z
              · have : j = i := by omega
                subst this
                rw [List.getElem?_set_self (by omega), show gs.getD j [] = g by rw [List.getD_eq_getElem?_getD, hg]; rfl]
            · rcases List.mem_or_eq_of_mem_set hr' with z | z
              · exact hok4 r z
              · rw [z]
                refine ⟨by rw [List.length_map]; exact hgk.1, fun y hy => ?_⟩
                obtain ⟨u, hu, rfl⟩ := List.mem_map.mp hy
                exact (hnulN u (by have := hgk.2 u hu; omega)).2
      · rintro σ H4 ⟨k4, v6, vrs, rows, rfl, hR4, ht4, hl4, hat4, hok4⟩
        have hc4 := k4 _ _ hcR (s3 _ _ hc)
        have hbN := hnulN bn (by omega)
        refine ⟨_, rfl, _, rfl, _, rfl, c, tI nu, (bn : Int), .int ((nu.getD bn 0 : Nat) : Int), rfl, rfl, SqL.of hc4, atI_nat (tI_at hbN.1), szl (by show 2 ≤ 1000000; decide), fun t nt => ?_⟩
        have s5 := same_upd (o := .tup [.ref R, .int ((nu.getD bn 0 : Nat) : Int)]) nt
        have k04 : KeepX bg H H4 := fun a o ha e => k4 a o (ne_of_none e nRH) ((k02.trans (KeepX.of s3)) a o ha e)
        exact q _ t R vrs nu rows N nRH (k04.trans (KeepX.of s5)) ((hB3.keep k4 hbgR (hB2.neC nR)).same s5) upd_same (s5 _ _ hR4) (ht4.same s5) ⟨hnu, by omega, by omega, hl4, hat4, hok4⟩
theorem ok_lprimes (F0 : FnP K "_law_primes" s__law_primes f fd) (T : Bt mg) (F__law_pull : Fo P w K mg base "_law_pull" ["_law_bag_here", "_law_sides"] 1 sp_lpull) :
    FnOk P w K mg base CX0 2 f fd ["_law_bag_here"] sp_lprimes := by
  refine F0.ok sc__law_primes (fun vs H Q E h => ?_) (fun cdv A outer s H vs Q E hr h => ?_)
  · obtain ⟨bg, cl, rfl, _⟩ := h
    rfl
  · obtain ⟨bg, cl, rfl, hB, q⟩ := h
    refine ⟨_, PSs.nox (pss_cons (ps_setLc (i := 1) (own := [("_law_one", 2)]) (g := gName 2) rfl sc__law_primes.nd rfl rfl (sw_true rfl rfl rfl (by decide +kernel)) (piL K (pe_lst (pa_cons pe_int (pa_cons pe_int (pa_cons pe_int pa_nil)))))
  (blkOk_by (N := ["_law_bag_here", "_law_some", "_law_one"]) (sc := defScope s__law_primes) (by decide +kernel)) (fun _ _ _ _ _ => pg_name (i := 2) sc__law_primes.nd rfl (Or.inl rfl)) (fun _ _ _ _ _ => (pts_one (pt_cmpR op_gt (pc F__law_pull hr (by rfl) (pa_cons (pv 0) (pa_cons pe_int pa_nil))) pe_int (nomark _)))) (fun _ _ _ _ _ => (pv 2)))
  (pss_one (ps_ret (pe_ifExp (pt_cmpR op_eq (pc F__law_pull hr (by rfl) (pa_cons (pv 0) (pa_cons pe_int pa_nil))) pe_int (nomark _)) (pe_op op_cat (pv 1) (pe_slice (slL K) (pv 1) po_none (po_some (pc F__law_pull hr (by rfl) (pa_cons (pv 0) (pa_cons pe_int pa_nil)))))) (pe_revL (pv 1)))))), ?_⟩
    refine ⟨szl (by show 3 ≤ 1000000; decide), fun l nl => ⟨l, rfl, ⟨_, SqL.of upd_same⟩, fun D nD => ?_⟩⟩
    have s1 : Same H (upd H l (.lst (tI [2, 3, 5]))) := same_upd nl
    have nDH := s1.free nD
    have hDl : l ≠ D := fun e => by rw [← e, upd_same] at nD; cases nD
    have hlbg : l ≠ bg := hB.ne nl
    have hDbg : D ≠ bg := hB.ne nDH
    refine lc_wk (wk_lst (K := K) (SqL.of (only_at l (.lst (tI [2, 3, 5]))))) (fun i H' => KeepX bg H H' ∧ Bag H' bg cl ∧ H' l = some (.lst (tI [2, 3, 5])) ∧ ∃ ps, H' D = some (.lst (tI ps)) ∧ ps.length ≤ i ∧ i ≤ 3 ∧ ∀ p ∈ ps, p = 2 ∨ p = 3 ∨ p = 5)
      ⟨KeepX.of (s1.trans (same_upd nD)), hB.same (s1.trans (same_upd nD)), by rw [upd_ne hDl]; exact upd_same, [], upd_same, Nat.le_refl _, Nat.zero_le _, fun p hp => (List.not_mem_nil hp).elim⟩ (fun i H' h => only_same h.2.2.1) ?_ ?_
    · rintro i x Ha Hb hi ⟨ka, hBa, hla, ps, hDa, hpl, hi3, hps⟩ sab hx
      obtain ⟨y, hy, rfl⟩ := tI_get hx
      have hy3 : y = 2 ∨ y = 3 ∨ y = 5 := by
        have := List.mem_of_getElem? hy
        simp only [List.mem_cons, List.not_mem_nil, or_false] at this
        exact this
      have hi3' : i < 3 := by rw [tI_len] at hi; exact hi
      refine ⟨rfl, ?_⟩
      refine ⟨_, rfl, bg, cl, 3, rfl, hBa.same sab, by decide, by decide, fun Hc n hn kc hBc => ⟨_, _, rfl, rfl, _, rfl, ?_⟩⟩
      have hDc := kc _ _ hDbg (sab _ _ hDa)
      have hlc := kc _ _ hlbg (sab _ _ hla)
      have kc' := (ka.trans (KeepX.of sab)).trans kc
      by_cases h0 : (n : Int) > 0
      · rw [decide_eq_true h0]
        refine iteT ⟨_, rfl, _, hDc, szl' (by rw [tI_len]; omega), kc'.updn nDH, hBc.keep (x := D) (KeepX.refl D Hc).upd hDbg.symm (hB.neC nDH), by rw [upd_ne hDl]; exact hlc, ps ++ [y], ?_, by rw [List.length_append]; show ps.length + 1 ≤ _; omega, hi3', fun p hp => ?_⟩
        · rw [upd_same]
          unfold tI
          rw [List.map_append]
          rfl
        · rcases List.mem_append.mp hp with z | z
          · exact hps p z
          · rw [List.mem_singleton.mp z]; exact hy3
      · rw [decide_eq_false h0]
        exact iteF ⟨kc', hBc, hlc, ps, hDc, by omega, hi3', hps⟩
    · rintro H1 ⟨k1, hB1, hl1, ps, hD1, hpl, _, hps⟩
      have hpl : ps.length ≤ 3 := hpl
      refine ⟨_, rfl, bg, cl, 2, rfl, hB1, by decide, by decide, fun H2 m hm k2 hB2 => ⟨rfl, _, rfl, ?_⟩⟩
      have hD2 := k2 _ _ hDbg hD1
      refine ite2 (fun _ => ?_) (fun _ => ?_)
      · refine ⟨_, rfl, _, rfl, _, rfl, bg, cl, 2, rfl, hB2, by decide, by decide, fun H3 x hx k3 hB3 => ⟨(x : Int), rfl, D, _, rfl, SqL.of (k3 _ _ hDbg hD2), fun p np => ?_⟩⟩
        rw [cut_take]
        have s3 := same_upd (o := .lst (tI (ps.take x))) np
        refine ⟨D, p, _, _, rfl, rfl, s3 _ _ (k3 _ _ hDbg hD2), upd_same, szl (by rw [tI_len, tI_len, List.length_take]; omega), fun p2 np2 => ?_⟩
        have e : tI ps ++ tI (ps.take x) = tI (ps ++ ps.take x) := by
          unfold tI
          rw [List.map_append]
        rw [e]
        have s34 := s3.trans (same_upd (o := .lst (tI (ps ++ ps.take x))) np2)
        have k03 := (k1.trans k2).trans k3
        refine q _ p2 _ (k03.none (hB3.ne (s3.free np2)) (s3.free np2)) (k03.trans (KeepX.of s34)) (hB3.same s34) upd_same ?_ (fun z hz => ?_)
        · rw [List.length_append, List.length_take]
          omega
        · rcases List.mem_append.mp hz with h | h
          · exact hps z h
          · exact hps z (List.mem_of_mem_take h)
      · refine ⟨_, rfl, D, _, rfl, SqL.of hD2, fun p np => ?_⟩
        have e : (tI ps).reverse = tI ps.reverse := by
          unfold tI
          rw [List.map_reverse]
        rw [e]
        have k02 := k1.trans k2
        refine q _ p _ (k02.none (hB2.ne np) np) (k02.trans (KeepX.of (same_upd np))) (hB2.same (same_upd np)) upd_same (by rw [List.length_reverse]; omega) (fun z hz => hps z (List.mem_reverse.mp hz))
end
end Kn
/-! H12 -/
set_option maxHeartbeats 2000000
namespace Kn
open PySem PySem.Spec PyProof.Rows L2
theorem sc__law_same : FnScope ["_law_found", "_law_due", "_law_a", "_law_b"] ["_law_found", "_law_due"] (defScope s__law_same) := ⟨rfl, rfl, rfl, by decide +kernel, rfl, by decide +kernel, by decide +kernel⟩
theorem sc__law_build : FnScope ["_law_machine_z", "_law_some"] ["_law_machine_z", "_law_some"] (defScope s__law_build) := ⟨rfl, rfl, rfl, by decide +kernel, rfl, by decide +kernel, by decide +kernel⟩
theorem sc__law_holds : FnScope ["_law_answer", "_law_some"] ["_law_answer", "_law_some"] (defScope s__law_holds) := ⟨rfl, rfl, rfl, by decide +kernel, rfl, by decide +kernel, by decide +kernel⟩
theorem sc__law_ring_stands : FnScope ["_law_answer", "_law_goals", "_law_signs", "_law_begin", "_law_some"] ["_law_answer", "_law_goals", "_law_signs", "_law_begin", "_law_some"] (defScope s__law_ring_stands) := ⟨rfl, rfl, rfl, by decide +kernel, rfl, by decide +kernel, by decide +kernel⟩
theorem sc__law_knot_stands : FnScope ["_law_answer", "_law_goals", "_law_signs", "_law_begin"] ["_law_answer", "_law_goals", "_law_signs", "_law_begin"] (defScope s__law_knot_stands) := ⟨rfl, rfl, rfl, by decide +kernel, rfl, by decide +kernel, by decide +kernel⟩
/-! ### methods with a star parameter -/
structure MoV (P : Program) (w : World) (K : Fr) (mg : Str → Option Value) (base : Heap) (C : Addr) (m : Str) (k : Nat) (sp : Sp) : Prop where
  ex : FnR P w K mg base CX0 k (He.ma K C m) (spV sp)
  mt : Meth K C m (He.ma K C m)
section
variable {X : Cx} {C : Addr} {m : Str} {j k : Nat} {sp : Sp} {o e : Expr} {es : List Expr} {ta : TE} {t : TA} {apos pos : Pos}
theorem pmV {pl : Sem Bool} (F : MoV X.prog X.w X.K X.mg X.base C m j sp) (c : Cls X.K C) (he : PE X o ta) (hr : Room k X.A) (ha : PA X (e :: es) t) (hjk : j ≤ k := by first | decide | exact Nat.le_refl _)
    (hst : starEach (e :: es) X.env = (false, eval e X.env) :: starEach es X.env := by rfl) (hpl : (backTo pos (starEach es X.env)).any (·.1) = false := by rfl)
    (ht : eval (.Call (.Attribute o m apos) (e :: es) [] pos) X.env = (do
      let ov ← eval o X.env
      standAt apos.atName
      let (f, first) ← holding [ov] (getMethod ov m pl)
      callWith pos f first (backTo pos (starEach (e :: es) X.env)) (backToKw pos (keywordEach [] X.env))) := by rfl) :
    PE X (.Call (.Attribute o m apos) (e :: es) [] pos) (tMethR C m (spV sp) E0 ta t) := pe_methR he c F.mt F.ex (hr.mono hjk) pass0 ha hst hpl ht
theorem pmV0 {pl : Sem Bool} (F : MoV X.prog X.w X.K X.mg X.base C m j sp) (c : Cls X.K C) (he : PE X o ta) (hr : Room k X.A) (hjk : j ≤ k := by first | decide | exact Nat.le_refl _)
    (ht : eval (.Call (.Attribute o m apos) [] [] pos) X.env = (do
      let ov ← eval o X.env
      standAt apos.atName
      let (f, first) ← holding [ov] (getMethod ov m pl)
      callWith pos f first (backTo pos (starEach [] X.env)) (backToKw pos (keywordEach [] X.env))) := by rfl) :
    PE X (.Call (.Attribute o m apos) [] [] pos) (tMethR C m (spV sp) E0 ta tNil) := by
  refine ⟨fun pins s σ H Q I h => ?_⟩
  refine PySem.W.methodCall_KW (pl := pl) (thn (he.run pins s σ H _ I h) fun u s1 ⟨x, H1, I1, rx, a, dx, fs, ex, ea, l, q⟩ => ?_) ht
  subst ex
  obtain rfl : u = Value.ref a := rx
  refine getmeth_ok I1 ea c F.mt l ?_
  exact PySem.W.callWith_K0 (first := [.ref a]) I1.kIn F.mt.kp (wpAny_call (run_fnR (us := [.ref a]) (vs := [.ref a]) F.ex (hr.mono hjk) pass0 I1 (.cons rfl .nil) q))
end
theorem fn_or {CX : CXT} {P : Program} {w : World} {K : Fr} {mg : Str → Option Value} {base : Heap} {k : Nat} {f : Addr} {fd : FuncData} {ps : List Str} {sp sp' : Sp} (F : FnOk P w K mg base CX k f fd ps sp) (G : FnOk P w K mg base CX k f fd ps sp') : FnOk P w K mg base CX k f fd ps (fun vs H Q E => sp vs H Q E ∨ sp' vs H Q E) :=
  ⟨fun vs H Q E z => z.elim (F.len vs H Q E) (G.len vs H Q E), fun A outer s H args us vs Q E hr e0 hb r z => z.elim (F.run A outer s H args us vs Q E hr e0 hb r) (G.run A outer s H args us vs Q E hr e0 hb r)⟩
/-! ### instances of own classes for isinstance -/
structure ICl (K : Fr) (C : Addr) : Prop where
  ha : PySem.W.findIn K (.ref C) "__class__" = some (some (.builtin "object.__class__"))
  hn : PySem.W.specialIn K (.builtin "object.__class__") "__get__" = some (some (.builtin "getset_descriptor.__get__"))
  htk : PySem.W.takesIn K (.builtin "object.__class__") = some true
  hm : PySem.W.mroIn K C (.type "object") = some true
theorem tyIns {K : Fr} {H : Hp} {a C dx : Addr} {fs : List (Str × V)} (c : Cls K C) (i : ICl K C) (h : H a = some (.ins C dx fs)) : TyX K H (.ref a) (.ref C) := .base (.ins h c i.ha i.hn i.htk i.hm)
theorem kitAny_bl {K : Fr} : PySem.W.kitAny K (.type "bool") [.type "list", .type "tuple"] = some false := kitAny_cons (kit_ty k_bl) (fun _ => kitAny_cons (kit_ty k_bt) (fun _ => kitAny_nil) (fun h => nomatch h)) (fun h => nomatch h)
theorem kitAny_st {K : Fr} : PySem.W.kitAny K (.type "str") [.type "list", .type "tuple"] = some false := kitAny_cons (kit_ty k_sl) (fun _ => kitAny_cons (kit_ty k_st) (fun _ => kitAny_nil) (fun h => nomatch h)) (fun h => nomatch h)
/-- a bool or a text -/
def Leaf (v : V) : Prop := (∃ b, v = .bl b) ∨ ∃ z, v = .str z
def sp_lsame0 : Sp := fun vs H Q _ => ∃ v, vs = [v, v] ∧ Leaf v ∧ ∀ H', Same H H' → Q (.bl true) H'
def sp_lsame1 : Sp := fun vs H Q _ => ∃ (a b : Addr) (xs : List V), vs = [.ref a, .ref b] ∧ H a = some (.lst xs) ∧ H b = some (.lst xs) ∧ xs.length ≤ 1000 ∧ (∀ v ∈ xs, Leaf v) ∧ ∀ H', Same H H' → Q (.bl true) H'
theorem bne_same (b : Bool) : (!decide (V.bl b = V.bl b)) = false := by rw [decide_eq_true rfl]; rfl
section
variable {P : Program} {w : World} {K : Fr} {mg : Str → Option Value} {base : Heap} {fd : FuncData} {f CM CR CK : Addr}
theorem ok_lsame0 (F0 : FnP K "_law_same" s__law_same f fd) (T : Bt mg) (F__law_same : Fo P w K mg base "_law_same" ["_law_found", "_law_due"] 0 (fun _ _ _ _ => False)) : FnOk P w K mg base CX0 1 f fd ["_law_found", "_law_due"] sp_lsame0 := by
  refine F0.ok sc__law_same (fun vs H Q E h => ?_) (fun cdv A outer s H vs Q E hr h => ?_)
  · obtain ⟨v, rfl, _⟩ := h
    rfl
  · obtain ⟨v, rfl, hv, q⟩ := h
    refine ⟨_, PSs.nox (pss_cons (ps_if (pt_val (pe_callB (callIsiT K) (by rfl) T.isinstance (by decide +kernel) (pa_cons (pv 1) (pa_cons (pe_tup (pa_cons (pe_bltn (v := .ty "list") (by rfl) T.list (by decide +kernel) rfl) (pa_cons (pe_bltn (v := .ty "tuple") (by rfl) T.tuple (by decide +kernel) rfl) pa_nil))) pa_nil)))) (pss_cons (ps_if (PW.pt (pw_or (pt_cmpR op_ne (pe_callB (callIsi K) (by rfl) T.isinstance (by decide +kernel) (pa_cons (pv 0) (pa_cons (pe_bltn (v := .ty "list") (by rfl) T.list (by decide +kernel) rfl) pa_nil))) (pe_callB (callIsi K) (by rfl) T.isinstance (by decide +kernel) (pa_cons (pv 1) (pa_cons (pe_bltn (v := .ty "list") (by rfl) T.list (by decide +kernel) rfl) pa_nil))) (nomark _)) (pw_or1 (pt_cmpR op_ne (pe_callB (callIsi K) (by rfl) T.isinstance (by decide +kernel) (pa_cons (pv 0) (pa_cons (pe_bltn (v := .ty "tuple") (by rfl) T.tuple (by decide +kernel) rfl) pa_nil))) (pe_callB (callIsi K) (by rfl) T.isinstance (by decide +kernel) (pa_cons (pv 1) (pa_cons (pe_bltn (v := .ty "tuple") (by rfl) T.tuple (by decide +kernel) rfl) pa_nil))) (nomark _))))) (pss_one (ps_ret pe_bl)) pss_nil)
  (pss_one (ps_ret (pe_and (pe_cmpR op_eq (pe_callB (callLenSeq K) (by rfl) T.len PySem.boot_len (pa_cons (pv 0) pa_nil)) (pe_callB (callLenSeq K) (by rfl) T.len PySem.boot_len (pa_cons (pv 1) pa_nil)) (nomark _)) (pe_one (pe_callB (crAll K) (by rfl) T.all (by decide +kernel) (pa_cons (pe_lc (own := [("_law_a", 2), ("_law_b", 3)]) (g := gTup K 2 (gCons (gName 2) (gCons (gName 3) gNil))) (tt := tYes) rfl sc__law_same.nd (pi_zipG (by rfl) T.zip (pa_cons (pv 0) (pa_cons (pv 1) pa_nil)))
  (blkOk_by (N := ["_law_found", "_law_due", "_law_a", "_law_b"]) (sc := defScope s__law_same) (by decide +kernel)) (fun _ _ _ _ _ => (pg_tupK K rfl (pgs_cons (pg_name (i := 2) sc__law_same.nd rfl (Or.inl rfl)) (pgs_cons (pg_name (i := 3) sc__law_same.nd rfl (Or.inl rfl)) pgs_nil)))) (fun _ _ _ _ _ => pts_nil) (fun _ _ _ _ _ => (pc F__law_same hr (by rfl) (pa_cons (pv 2) (pa_cons (pv 3) pa_nil))))) pa_nil))))))) pss_nil)
  (pss_cons (ps_if (PW.pt (pw_or (pt_cmpR op_isN (pv 1) pe_non (nomark _)) (pw_or1 (pt_cmpR op_isN (pv 0) pe_non (nomark _))))) (pss_one (ps_ret (pe_and (pe_cmpR op_isN (pv 1) pe_non (nomark _)) (pe_one (pe_cmpR op_isN (pv 0) pe_non (nomark _)))))) pss_nil)
  (pss_cons (ps_if (PW.pt (pw_or (pt_cmpR op_ne (pe_callB (callIsi K) (by rfl) T.isinstance (by decide +kernel) (pa_cons (pv 1) (pa_cons (pe_bltn (v := .ty "bool") (by rfl) T.bool (by decide +kernel) rfl) pa_nil))) (pe_callB (callIsi K) (by rfl) T.isinstance (by decide +kernel) (pa_cons (pv 0) (pa_cons (pe_bltn (v := .ty "bool") (by rfl) T.bool (by decide +kernel) rfl) pa_nil))) (nomark _)) (pw_or1 (pt_cmpR op_ne (pe_callB (callIsi K) (by rfl) T.isinstance (by decide +kernel) (pa_cons (pv 1) (pa_cons (pe_bltn (v := .ty "int") (by rfl) T.int (by decide +kernel) rfl) pa_nil))) (pe_callB (callIsi K) (by rfl) T.isinstance (by decide +kernel) (pa_cons (pv 0) (pa_cons (pe_bltn (v := .ty "int") (by rfl) T.int (by decide +kernel) rfl) pa_nil))) (nomark _))))) (pss_one (ps_ret pe_bl)) pss_nil)
  (pss_one (ps_ret (pe_and (pe_cmpR op_eq (pe_callB (callIsi K) (by rfl) T.isinstance (by decide +kernel) (pa_cons (pv 1) (pa_cons (pe_bltn (v := .ty "str") (by rfl) T.str (by decide +kernel) rfl) pa_nil))) (pe_callB (callIsi K) (by rfl) T.isinstance (by decide +kernel) (pa_cons (pv 0) (pa_cons (pe_bltn (v := .ty "str") (by rfl) T.str (by decide +kernel) rfl) pa_nil))) (nomark _)) (pe_one (pe_cmpR op_eq (pv 0) (pv 1) (nomark _))))))))), ?_⟩
    refine ⟨_, rfl, szl (by show 2 ≤ 1000000; decide), fun p np => ?_⟩
    have s1 : Same H (upd H p (.tup [.ty "list", .ty "tuple"])) := same_upd np
    rcases hv with ⟨b, rfl⟩ | ⟨z, rfl⟩
    · refine ⟨_, _, _, _, _, _, rfl, upd_same, .cons (.ty _) (.cons (.ty _) .nil), tyB, kitAny_bl, false, rfl, iteF ?_⟩
      refine ⟨_, rfl, rfl, _, rfl, iteF ?_⟩
      refine ⟨_, rfl, rfl, _, rfl, iteF ?_⟩
      refine ⟨_, rfl, _, _, _, _, _, rfl, .ty _, tyB, kit_ty k_bb, _, rfl, _, _, _, _, _, rfl, .ty _, tyB, kit_ty k_bb, rfl, _, rfl, ?_⟩
      rw [bne_same]
      refine iteF ⟨_, rfl, _, _, _, _, _, rfl, .ty _, tyB, kit_ty k_bi, _, rfl, _, _, _, _, _, rfl, .ty _, tyB, kit_ty k_bi, rfl, _, rfl, ?_⟩
      rw [bne_same]
      refine iteF ?_
      refine ⟨_, rfl, _, _, _, _, _, rfl, .ty _, tyB, kit_ty k_bs, _, rfl, _, _, _, _, _, rfl, .ty _, tyB, kit_ty k_bs, rfl, _, rfl, ?_⟩
      rw [decide_eq_true rfl]
      refine iteT ⟨_, rfl, _, rfl, rfl, ?_⟩
      rw [decide_eq_true rfl]
      exact q _ s1
    · refine ⟨_, _, _, _, _, _, rfl, upd_same, .cons (.ty _) (.cons (.ty _) .nil), tyS, kitAny_st, false, rfl, iteF ?_⟩
      refine ⟨_, rfl, rfl, _, rfl, iteF ?_⟩
      refine ⟨_, rfl, rfl, _, rfl, iteF ?_⟩
      refine ⟨_, rfl, _, _, _, _, _, rfl, .ty _, tyS, kit_ty k_sb, _, rfl, _, _, _, _, _, rfl, .ty _, tyS, kit_ty k_sb, rfl, _, rfl, ?_⟩
      rw [bne_same]
      refine iteF ⟨_, rfl, _, _, _, _, _, rfl, .ty _, tyS, kit_ty k_si, _, rfl, _, _, _, _, _, rfl, .ty _, tyS, kit_ty k_si, rfl, _, rfl, ?_⟩
      rw [bne_same]
      refine iteF ?_
      refine ⟨_, rfl, _, _, _, _, _, rfl, .ty _, tyS, kit_ty k_ss, _, rfl, _, _, _, _, _, rfl, .ty _, tyS, kit_ty k_ss, rfl, _, rfl, ?_⟩
      rw [decide_eq_true rfl]
      refine iteT ⟨_, rfl, _, rfl, rfl, ?_⟩
      rw [decide_eq_true rfl]
      exact q _ s1
theorem ok_lsame1 (F0 : FnP K "_law_same" s__law_same f fd) (T : Bt mg) (F__law_same : Fo P w K mg base "_law_same" ["_law_found", "_law_due"] 1 sp_lsame0) : FnOk P w K mg base CX0 2 f fd ["_law_found", "_law_due"] sp_lsame1 := by
  refine F0.ok sc__law_same (fun vs H Q E h => ?_) (fun cdv A outer s H vs Q E hr h => ?_)
  · obtain ⟨a, b, xs, rfl, _⟩ := h
    rfl
  · obtain ⟨a, b, xs, rfl, ha, hb, hl, hlf, q⟩ := h
    refine ⟨_, PSs.nox (pss_cons (ps_if (pt_val (pe_callB (callIsiT K) (by rfl) T.isinstance (by decide +kernel) (pa_cons (pv 1) (pa_cons (pe_tup (pa_cons (pe_bltn (v := .ty "list") (by rfl) T.list (by decide +kernel) rfl) (pa_cons (pe_bltn (v := .ty "tuple") (by rfl) T.tuple (by decide +kernel) rfl) pa_nil))) pa_nil)))) (pss_cons (ps_if (PW.pt (pw_or (pt_cmpR op_ne (pe_callB (callIsi K) (by rfl) T.isinstance (by decide +kernel) (pa_cons (pv 0) (pa_cons (pe_bltn (v := .ty "list") (by rfl) T.list (by decide +kernel) rfl) pa_nil))) (pe_callB (callIsi K) (by rfl) T.isinstance (by decide +kernel) (pa_cons (pv 1) (pa_cons (pe_bltn (v := .ty "list") (by rfl) T.list (by decide +kernel) rfl) pa_nil))) (nomark _)) (pw_or1 (pt_cmpR op_ne (pe_callB (callIsi K) (by rfl) T.isinstance (by decide +kernel) (pa_cons (pv 0) (pa_cons (pe_bltn (v := .ty "tuple") (by rfl) T.tuple (by decide +kernel) rfl) pa_nil))) (pe_callB (callIsi K) (by rfl) T.isinstance (by decide +kernel) (pa_cons (pv 1) (pa_cons (pe_bltn (v := .ty "tuple") (by rfl) T.tuple (by decide +kernel) rfl) pa_nil))) (nomark _))))) (pss_one (ps_ret pe_bl)) pss_nil)
  (pss_one (ps_ret (pe_and (pe_cmpR op_eq (pe_callB (callLenSeq K) (by rfl) T.len PySem.boot_len (pa_cons (pv 0) pa_nil)) (pe_callB (callLenSeq K) (by rfl) T.len PySem.boot_len (pa_cons (pv 1) pa_nil)) (nomark _)) (pe_one (pe_callB (crAll K) (by rfl) T.all (by decide +kernel) (pa_cons (pe_lc (own := [("_law_a", 2), ("_law_b", 3)]) (g := gTup K 2 (gCons (gName 2) (gCons (gName 3) gNil))) (tt := tYes) rfl sc__law_same.nd (pi_zipG (by rfl) T.zip (pa_cons (pv 0) (pa_cons (pv 1) pa_nil)))
  (blkOk_by (N := ["_law_found", "_law_due", "_law_a", "_law_b"]) (sc := defScope s__law_same) (by decide +kernel)) (fun _ _ _ _ _ => (pg_tupK K rfl (pgs_cons (pg_name (i := 2) sc__law_same.nd rfl (Or.inl rfl)) (pgs_cons (pg_name (i := 3) sc__law_same.nd rfl (Or.inl rfl)) pgs_nil)))) (fun _ _ _ _ _ => pts_nil) (fun _ _ _ _ _ => (pc F__law_same hr (by rfl) (pa_cons (pv 2) (pa_cons (pv 3) pa_nil))))) pa_nil))))))) pss_nil)
  (pss_cons (ps_if (PW.pt (pw_or (pt_cmpR op_isN (pv 1) pe_non (nomark _)) (pw_or1 (pt_cmpR op_isN (pv 0) pe_non (nomark _))))) (pss_one (ps_ret (pe_and (pe_cmpR op_isN (pv 1) pe_non (nomark _)) (pe_one (pe_cmpR op_isN (pv 0) pe_non (nomark _)))))) pss_nil)
  (pss_cons (ps_if (PW.pt (pw_or (pt_cmpR op_ne (pe_callB (callIsi K) (by rfl) T.isinstance (by decide +kernel) (pa_cons (pv 1) (pa_cons (pe_bltn (v := .ty "bool") (by rfl) T.bool (by decide +kernel) rfl) pa_nil))) (pe_callB (callIsi K) (by rfl) T.isinstance (by decide +kernel) (pa_cons (pv 0) (pa_cons (pe_bltn (v := .ty "bool") (by rfl) T.bool (by decide +kernel) rfl) pa_nil))) (nomark _)) (pw_or1 (pt_cmpR op_ne (pe_callB (callIsi K) (by rfl) T.isinstance (by decide +kernel) (pa_cons (pv 1) (pa_cons (pe_bltn (v := .ty "int") (by rfl) T.int (by decide +kernel) rfl) pa_nil))) (pe_callB (callIsi K) (by rfl) T.isinstance (by decide +kernel) (pa_cons (pv 0) (pa_cons (pe_bltn (v := .ty "int") (by rfl) T.int (by decide +kernel) rfl) pa_nil))) (nomark _))))) (pss_one (ps_ret pe_bl)) pss_nil)
  (pss_one (ps_ret (pe_and (pe_cmpR op_eq (pe_callB (callIsi K) (by rfl) T.isinstance (by decide +kernel) (pa_cons (pv 1) (pa_cons (pe_bltn (v := .ty "str") (by rfl) T.str (by decide +kernel) rfl) pa_nil))) (pe_callB (callIsi K) (by rfl) T.isinstance (by decide +kernel) (pa_cons (pv 0) (pa_cons (pe_bltn (v := .ty "str") (by rfl) T.str (by decide +kernel) rfl) pa_nil))) (nomark _)) (pe_one (pe_cmpR op_eq (pv 0) (pv 1) (nomark _))))))))), ?_⟩
    refine ⟨_, rfl, szl (by show 2 ≤ 1000000; decide), fun p np => ?_⟩
    have s1 : Same H (upd H p (.tup [.ty "list", .ty "tuple"])) := same_upd np
    have ha1 := s1 _ _ ha
    have hb1 := s1 _ _ hb
    refine ⟨_, _, _, _, _, _, rfl, upd_same, .cons (.ty _) (.cons (.ty _) .nil), tyL hb1, kitAny_ll, true, rfl, iteT ?_⟩
    refine ⟨_, rfl, _, _, _, _, _, rfl, .ty _, tyL ha1, kit_ty k_ll, _, rfl, _, _, _, _, _, rfl, .ty _, tyL hb1, kit_ty k_ll, rfl, _, rfl, ?_⟩
    rw [bne_same]
    refine iteF ⟨_, rfl, _, _, _, _, _, rfl, .ty _, tyL ha1, kit_ty k_lt, _, rfl, _, _, _, _, _, rfl, .ty _, tyL hb1, kit_ty k_lt, rfl, _, rfl, ?_⟩
    rw [bne_same]
    refine iteF ?_
    refine ⟨_, rfl, a, _, rfl, .inl (SqL.of ha1), _, rfl, b, _, rfl, .inl (SqL.of hb1), rfl, _, rfl, ?_⟩
    rw [decide_eq_true rfl]
    refine iteT ?_
    refine ⟨_, rfl, _, rfl, _, _, _, _, _, _, rfl, .lst a xs, .lst b xs, ha1, hb1, fun D nD => ?_⟩
    have W := wk_zip (H0 := upd H p (.tup [.ty "list", .ty "tuple"])) (.lst a xs) (.lst b xs) ha1 hb1
    rw [Nat.min_self] at W
    refine lc_bools (fun _ => true) W nD (by omega) (fun i σ2 H' => ∃ v, Leaf v ∧ σ2 = [some (.ref a), some (.ref b), some v, some v]) ?_ ?_ ?_
    · rintro i x H' Q' hi sm ⟨T, x1, y1, rfl, hT, h1, h2⟩ kk
      rw [h1] at h2
      cases h2
      exact ⟨T, _, rfl, SqT.of hT, rfl, _, _, rfl, _, _, rfl, rfl, kk _ rfl ⟨x1, hlf _ (List.mem_of_getElem? h1), rfl⟩⟩
    · rintro i σ2 H' hi sm ⟨v, hv, rfl⟩ Q' q'
      exact ⟨_, rfl, _, rfl, v, rfl, hv, fun H2 s2 => q' _ _ s2 rfl⟩
    · intro H' sm hl'
      refine ⟨D, _, rfl, SqL.of hl', ?_⟩
      rw [all_true]
      exact q _ (s1.trans sm)
/-! ### build with at most four primes -/
def sp_lbuild (CM CR CK : Addr) (T : List (Addr × Str)) : Sp := fun vs H Q _ => ∃ (v : V) (b : Addr) (M : Mc) (ps : List Nat), vs = [v, .ref b] ∧ IsM CM H v M ∧ (∀ rs, Rch M rs → rs.length ≤ 6 ∧ Knotted M rs) ∧ H b = some (.lst (tI ps)) ∧ ps.length ≤ 4 ∧ (∀ p ∈ ps, prm p = true ∧ p ≤ 8) ∧ LamX.Tabs T H ∧
  (∀ H' x rs ss wd ns, LamX.ExtN H H' → LamX.Tabs T H' → Rch M rs → ss.Sublist rs → IsRing CR H' x v wd ns → RingA M ss ps wd ns → Q (.ref x) H') ∧
  ∀ H' x rs ss ws prs, LamX.ExtN H H' → LamX.Tabs T H' → Rch M rs → ss.Sublist rs → ss ≠ [] → IsKnot CK H' x v ss ws prs → KnotA M ss ws prs → Q (.ref x) H'
theorem tI_lt {ps : List Nat} {c : Int} (h : (ps.length : Int) < c) : decide (((tI ps).length : Int) < c) = true := decide_eq_true (by rw [tI_len]; exact h)
theorem tI_nlt {ps : List Nat} {c : Int} (h : ¬ (ps.length : Int) < c) : decide (((tI ps).length : Int) < c) = false := decide_eq_false (by rw [tI_len]; exact h)
theorem tI_is {ps : List Nat} {c : Int} (h : (ps.length : Int) = c) : decide (V.int ((tI ps).length : Int) = V.int c) = true := decide_eq_true (by rw [tI_len, h])
theorem tI_nis {ps : List Nat} {c : Int} (h : ¬ (ps.length : Int) = c) : decide (V.int ((tI ps).length : Int) = V.int c) = false := decide_eq_false (fun e => by injection e with e; rw [tI_len] at e; exact h e)
theorem ok_lbuild {Pt : Addr} (F0 : FnP K "_law_build" s__law_build f fd) (T : Bt mg) (F_build : Vo P w K mg base "build" 10 (sp_build CM CR CK [(Pt, lamQ)])) : FnOk P w K mg base CX0 11 f fd ["_law_machine_z", "_law_some"] (sp_lbuild CM CR CK [(Pt, lamQ)]) := by
  refine F0.ok sc__law_build (fun vs H Q E h => ?_) (fun cdv A outer s H vs Q E hr h => ?_)
  · obtain ⟨v, b, M, ps, rfl, _⟩ := h
    rfl
  · obtain ⟨v, b, M, ps, rfl, hM, hkn, hb, hl4, hpr, hT, qr, qk⟩ := h
    refine ⟨_, PSs.nox (pss_cons (ps_if (pt_cmpR op_lt (pe_callB (callLenSeq K) (by rfl) T.len PySem.boot_len (pa_cons (pv 1) pa_nil)) pe_int (nomark _)) (pss_one (ps_ret (pe_ifExp (pt_cmpR (opEqD K hr.units) (pv 1) (pe_lst pa_nil) (nomark _)) (pcV F_build hr (by rfl) (pa_cons (pv 0) pa_nil)) (pcV F_build hr (by rfl) (pa_cons (pv 0) (pa_cons (pe_ix (ixL K) (pv 1) pe_int (fun _ _ => rfl)) pa_nil)))))) pss_nil)
  (pss_cons (ps_if (pt_cmpR op_eq (pe_callB (callLenSeq K) (by rfl) T.len PySem.boot_len (pa_cons (pv 1) pa_nil)) pe_int (nomark _)) (pss_one (ps_ret (pcV F_build hr (by rfl) (pa_cons (pv 0) (pa_cons (pe_ix (ixL K) (pv 1) pe_int (fun _ _ => rfl)) (pa_cons (pe_ix (ixL K) (pv 1) pe_int (fun _ _ => rfl)) pa_nil)))))) pss_nil)
  (pss_cons (ps_if (pt_cmpR op_eq (pe_callB (callLenSeq K) (by rfl) T.len PySem.boot_len (pa_cons (pv 1) pa_nil)) pe_int (nomark _)) (pss_one (ps_ret (pcV F_build hr (by rfl) (pa_cons (pv 0) (pa_cons (pe_ix (ixL K) (pv 1) pe_int (fun _ _ => rfl)) (pa_cons (pe_ix (ixL K) (pv 1) pe_int (fun _ _ => rfl)) (pa_cons (pe_ix (ixL K) (pv 1) pe_int (fun _ _ => rfl)) pa_nil))))))) pss_nil)
  (pss_one (ps_ret (pcV F_build hr (by rfl) (pa_cons (pv 0) (pa_cons (pe_ix (ixL K) (pv 1) pe_int (fun _ _ => rfl)) (pa_cons (pe_ix (ixL K) (pv 1) pe_int (fun _ _ => rfl)) (pa_cons (pe_ix (ixL K) (pv 1) pe_int (fun _ _ => rfl)) (pa_cons (pe_ix (ixL K) (pv 1) pe_int (fun _ _ => rfl)) pa_nil))))))))))), ?_⟩
    have fin : ∀ (H1 : Hp) (p : Addr), Same H H1 → H1 p = some (.tup (tI ps)) → sp_build CM CR CK [(Pt, lamQ)] [v, .ref p] H1 Q E0 := fun H1 p s1 hp =>
      ⟨v, p, M, ps, rfl, hM.same s1, hkn, hp, hpr, hT.ext s1, fun H' x rs ss wd ns e => qr H' x rs ss wd ns ((LamX.ExtN.of s1).trans e), fun H' x rs ss ws prs e => qk H' x rs ss ws prs ((LamX.ExtN.of s1).trans e)⟩
    have len : ∀ {H1 : Hp}, Same H H1 → SqL K H1 b (tI ps) := fun s1 => SqL.of (s1 _ _ hb)
    refine ⟨_, rfl, b, _, rfl, .inl (len (Same.refl _)), _, _, rfl, rfl, _, rfl, ?_⟩
    match ps, hl4 with
    | [], _ =>
      rw [tI_lt (by decide)]
      refine iteT ?_
      refine ⟨_, rfl, szl (by show 0 ≤ 1000000; decide), fun l nl => eqd_L (xs := []) (ys := []) (len (same_upd nl)) (SqL.of upd_same) ⟨_, rfl, ?_⟩⟩
      rw [decide_eq_true rfl]
      exact iteT ⟨_, rfl, v, [], rfl, Nat.le_of_ble_eq_true rfl, fun p np => fin _ p ((same_upd nl).trans (same_upd np)) upd_same⟩
    | [a], _ =>
      rw [tI_lt (by show (1 : Int) < 2; decide)]
      refine iteT ?_
      refine ⟨_, rfl, szl (by show 0 ≤ 1000000; decide), fun l nl => eqd_L (xs := [a]) (ys := []) (len (same_upd nl)) (SqL.of upd_same) ⟨_, rfl, ?_⟩⟩
      rw [decide_eq_false (fun z => nomatch z)]
      exact iteF ⟨_, rfl, _, rfl, b, _, 0, .int (a : Int), rfl, rfl, len (same_upd nl), atI_nat (j := 0) rfl, v, [.int (a : Int)], rfl, Nat.le_of_ble_eq_true rfl, fun p np => fin _ p ((same_upd nl).trans (same_upd np)) upd_same⟩
    | [a, a2], _ =>
      rw [tI_nlt (by show ¬ (2 : Int) < 2; decide)]
      refine iteF ?_
      refine ⟨_, rfl, b, _, rfl, .inl (len (Same.refl _)), rfl, _, rfl, ?_⟩
      rw [tI_is (by rfl)]
      exact iteT ⟨_, rfl, _, rfl, b, _, 0, .int (a : Int), rfl, rfl, len (Same.refl _), atI_nat (j := 0) rfl, _, rfl, b, _, 1, .int (a2 : Int), rfl, rfl, len (Same.refl _), atI_nat (j := 1) rfl, v, [.int (a : Int), .int (a2 : Int)], rfl, Nat.le_of_ble_eq_true rfl, fun p np => fin _ p (same_upd np) upd_same⟩
    | [a, a2, a3], _ =>
      rw [tI_nlt (by show ¬ (3 : Int) < 2; decide)]
      refine iteF ?_
      refine ⟨_, rfl, b, _, rfl, .inl (len (Same.refl _)), rfl, _, rfl, ?_⟩
      rw [tI_nis (by show ¬ (3 : Int) = 2; decide)]
      refine iteF ?_
      refine ⟨_, rfl, b, _, rfl, .inl (len (Same.refl _)), rfl, _, rfl, ?_⟩
      rw [tI_is (by rfl)]
      exact iteT ⟨_, rfl, _, rfl, b, _, 0, .int (a : Int), rfl, rfl, len (Same.refl _), atI_nat (j := 0) rfl, _, rfl, b, _, 1, .int (a2 : Int), rfl, rfl, len (Same.refl _), atI_nat (j := 1) rfl, _, rfl, b, _, 2, .int (a3 : Int), rfl, rfl, len (Same.refl _), atI_nat (j := 2) rfl, v, [.int (a : Int), .int (a2 : Int), .int (a3 : Int)], rfl, Nat.le_of_ble_eq_true rfl, fun p np => fin _ p (same_upd np) upd_same⟩
    | [a, a2, a3, a4], _ =>
      rw [tI_nlt (by show ¬ (4 : Int) < 2; decide)]
      refine iteF ?_
      refine ⟨_, rfl, b, _, rfl, .inl (len (Same.refl _)), rfl, _, rfl, ?_⟩
      rw [tI_nis (by show ¬ (4 : Int) = 2; decide)]
      refine iteF ?_
      refine ⟨_, rfl, b, _, rfl, .inl (len (Same.refl _)), rfl, _, rfl, ?_⟩
      rw [tI_nis (by show ¬ (4 : Int) = 3; decide)]
      refine iteF ?_
      exact ⟨_, rfl, _, rfl, b, _, 0, .int (a : Int), rfl, rfl, len (Same.refl _), atI_nat (j := 0) rfl, _, rfl, b, _, 1, .int (a2 : Int), rfl, rfl, len (Same.refl _), atI_nat (j := 1) rfl, _, rfl, b, _, 2, .int (a3 : Int), rfl, rfl, len (Same.refl _), atI_nat (j := 2) rfl, _, rfl, b, _, 3, .int (a4 : Int), rfl, rfl, len (Same.refl _), atI_nat (j := 3) rfl, v, [.int (a : Int), .int (a2 : Int), .int (a3 : Int), .int (a4 : Int)], rfl, Nat.le_of_ble_eq_true rfl, fun p np => fin _ p (same_upd np) upd_same⟩
    | _ :: _ :: _ :: _ :: _ :: r, h => exact absurd h (by simp only [List.length_cons]; omega)
/-! ### holds with at most four primes -/
def sp_lholds (C : Addr) (sp : Sp) : Sp := fun vs H Q _ => ∃ (x b dx : Addr) (fs : List (Str × V)) (ps : List Nat), vs = [.ref x, .ref b] ∧ H x = some (.ins C dx fs) ∧ fs.lookup ("holds" : Str) = none ∧ H b = some (.lst (tI ps)) ∧ ps.length ≤ 4 ∧ ∀ H1 p, Same H H1 → H1 p = some (.tup (tI ps)) → sp [.ref x, .ref p] H1 Q E0
theorem ok_lholds {C : Addr} {sp : Sp} (F0 : FnP K "_law_holds" s__law_holds f fd) (T : Bt mg) (cC : Cls K C) (F_holds : MoV P w K mg base C "holds" 8 sp) : FnOk P w K mg base CX0 9 f fd ["_law_answer", "_law_some"] (sp_lholds C sp) := by
  refine F0.ok sc__law_holds (fun vs H Q E h => ?_) (fun cdv A outer s H vs Q E hr h => ?_)
  · obtain ⟨x, b, dx, fs, ps, rfl, _⟩ := h
    rfl
  · obtain ⟨x, b, dx, fs, ps, rfl, hx, hfs, hb, hl4, fin⟩ := h
    refine ⟨_, PSs.nox (pss_cons (ps_if (pt_cmpR op_lt (pe_callB (callLenSeq K) (by rfl) T.len PySem.boot_len (pa_cons (pv 1) pa_nil)) pe_int (nomark _)) (pss_one (ps_ret (pe_ifExp (pt_cmpR (opEqD K hr.units) (pv 1) (pe_lst pa_nil) (nomark _)) (pmV0 F_holds cC (pv 0) hr) (pmV F_holds cC (pv 0) hr (pa_cons (pe_ix (ixL K) (pv 1) pe_int (fun _ _ => rfl)) pa_nil))))) pss_nil)
  (pss_cons (ps_if (pt_cmpR op_eq (pe_callB (callLenSeq K) (by rfl) T.len PySem.boot_len (pa_cons (pv 1) pa_nil)) pe_int (nomark _)) (pss_one (ps_ret (pmV F_holds cC (pv 0) hr (pa_cons (pe_ix (ixL K) (pv 1) pe_int (fun _ _ => rfl)) (pa_cons (pe_ix (ixL K) (pv 1) pe_int (fun _ _ => rfl)) pa_nil))))) pss_nil)
  (pss_cons (ps_if (pt_cmpR op_eq (pe_callB (callLenSeq K) (by rfl) T.len PySem.boot_len (pa_cons (pv 1) pa_nil)) pe_int (nomark _)) (pss_one (ps_ret (pmV F_holds cC (pv 0) hr (pa_cons (pe_ix (ixL K) (pv 1) pe_int (fun _ _ => rfl)) (pa_cons (pe_ix (ixL K) (pv 1) pe_int (fun _ _ => rfl)) (pa_cons (pe_ix (ixL K) (pv 1) pe_int (fun _ _ => rfl)) pa_nil)))))) pss_nil)
  (pss_one (ps_ret (pmV F_holds cC (pv 0) hr (pa_cons (pe_ix (ixL K) (pv 1) pe_int (fun _ _ => rfl)) (pa_cons (pe_ix (ixL K) (pv 1) pe_int (fun _ _ => rfl)) (pa_cons (pe_ix (ixL K) (pv 1) pe_int (fun _ _ => rfl)) (pa_cons (pe_ix (ixL K) (pv 1) pe_int (fun _ _ => rfl)) pa_nil)))))))))), ?_⟩
    have len : ∀ {H1 : Hp}, Same H H1 → SqL K H1 b (tI ps) := fun s1 => SqL.of (s1 _ _ hb)
    refine ⟨_, rfl, b, _, rfl, .inl (len (Same.refl _)), _, _, rfl, rfl, _, rfl, ?_⟩
    match ps, hl4 with
    | [], _ =>
      rw [tI_lt (by decide)]
      refine iteT ?_
      refine ⟨_, rfl, szl (by show 0 ≤ 1000000; decide), fun l nl => eqd_L (xs := []) (ys := []) (len (same_upd nl)) (SqL.of upd_same) ⟨_, rfl, ?_⟩⟩
      rw [decide_eq_true rfl]
      exact iteT ⟨_, rfl, x, dx, fs, rfl, same_upd nl _ _ hx, hfs, .ref x, [], rfl, Nat.le_of_ble_eq_true rfl, fun p np => fin _ p ((same_upd nl).trans (same_upd np)) upd_same⟩
    | [a], _ =>
      rw [tI_lt (by show (1 : Int) < 2; decide)]
      refine iteT ?_
      refine ⟨_, rfl, szl (by show 0 ≤ 1000000; decide), fun l nl => eqd_L (xs := [a]) (ys := []) (len (same_upd nl)) (SqL.of upd_same) ⟨_, rfl, ?_⟩⟩
      rw [decide_eq_false (fun z => nomatch z)]
      exact iteF ⟨_, rfl, x, dx, fs, rfl, same_upd nl _ _ hx, hfs, _, rfl, b, _, 0, .int (a : Int), rfl, rfl, len (same_upd nl), atI_nat (j := 0) rfl, .ref x, [.int (a : Int)], rfl, Nat.le_of_ble_eq_true rfl, fun p np => fin _ p ((same_upd nl).trans (same_upd np)) upd_same⟩
    | [a, a2], _ =>
      rw [tI_nlt (by show ¬ (2 : Int) < 2; decide)]
      refine iteF ?_
      refine ⟨_, rfl, b, _, rfl, .inl (len (Same.refl _)), rfl, _, rfl, ?_⟩
      rw [tI_is (by rfl)]
      exact iteT ⟨_, rfl, x, dx, fs, rfl, hx, hfs, _, rfl, b, _, 0, .int (a : Int), rfl, rfl, len (Same.refl _), atI_nat (j := 0) rfl, _, rfl, b, _, 1, .int (a2 : Int), rfl, rfl, len (Same.refl _), atI_nat (j := 1) rfl, .ref x, [.int (a : Int), .int (a2 : Int)], rfl, Nat.le_of_ble_eq_true rfl, fun p np => fin _ p (same_upd np) upd_same⟩
    | [a, a2, a3], _ =>
      rw [tI_nlt (by show ¬ (3 : Int) < 2; decide)]
      refine iteF ?_
      refine ⟨_, rfl, b, _, rfl, .inl (len (Same.refl _)), rfl, _, rfl, ?_⟩
      rw [tI_nis (by show ¬ (3 : Int) = 2; decide)]
      refine iteF ?_
      refine ⟨_, rfl, b, _, rfl, .inl (len (Same.refl _)), rfl, _, rfl, ?_⟩
      rw [tI_is (by rfl)]
      exact iteT ⟨_, rfl, x, dx, fs, rfl, hx, hfs, _, rfl, b, _, 0, .int (a : Int), rfl, rfl, len (Same.refl _), atI_nat (j := 0) rfl, _, rfl, b, _, 1, .int (a2 : Int), rfl, rfl, len (Same.refl _), atI_nat (j := 1) rfl, _, rfl, b, _, 2, .int (a3 : Int), rfl, rfl, len (Same.refl _), atI_nat (j := 2) rfl, .ref x, [.int (a : Int), .int (a2 : Int), .int (a3 : Int)], rfl, Nat.le_of_ble_eq_true rfl, fun p np => fin _ p (same_upd np) upd_same⟩
    | [a, a2, a3, a4], _ =>
      rw [tI_nlt (by show ¬ (4 : Int) < 2; decide)]
      refine iteF ?_
      refine ⟨_, rfl, b, _, rfl, .inl (len (Same.refl _)), rfl, _, rfl, ?_⟩
      rw [tI_nis (by show ¬ (4 : Int) = 2; decide)]
      refine iteF ?_
      refine ⟨_, rfl, b, _, rfl, .inl (len (Same.refl _)), rfl, _, rfl, ?_⟩
      rw [tI_nis (by show ¬ (4 : Int) = 3; decide)]
      refine iteF ?_
      exact ⟨_, rfl, x, dx, fs, rfl, hx, hfs, _, rfl, b, _, 0, .int (a : Int), rfl, rfl, len (Same.refl _), atI_nat (j := 0) rfl, _, rfl, b, _, 1, .int (a2 : Int), rfl, rfl, len (Same.refl _), atI_nat (j := 1) rfl, _, rfl, b, _, 2, .int (a3 : Int), rfl, rfl, len (Same.refl _), atI_nat (j := 2) rfl, _, rfl, b, _, 3, .int (a4 : Int), rfl, rfl, len (Same.refl _), atI_nat (j := 3) rfl, .ref x, [.int (a : Int), .int (a2 : Int), .int (a3 : Int), .int (a4 : Int)], rfl, Nat.le_of_ble_eq_true rfl, fun p np => fin _ p (same_upd np) upd_same⟩
    | _ :: _ :: _ :: _ :: _ :: r, h => exact absurd h (by simp only [List.length_cons]; omega)
/-! ### what stands -/
def sp_lrstands (CR : Addr) : Sp := fun vs H Q _ => ∃ (x b vp : Addr) (v : V) (M : Mc) (vrs : List V) (ss ps wd ns rs : List Nat), vs = [.ref x, .ref b, .str (al M), .int (M.s0 : Int), .ref vp] ∧ IsRing CR H x v wd ns ∧ M.Ok ∧ H b = some (.lst vrs) ∧ TL H vrs M.rows ∧ H vp = some (.lst (tI ps)) ∧ RingA M ss ps wd ns ∧ Rc M rs ∧ (∀ s ∈ ns, s ∈ rs) ∧ ∀ H', Same H H' → Q (.bl true) H'
theorem ok_lrstands (F0 : FnP K "_law_ring_stands" s__law_ring_stands f fd) (T : Bt mg) (cR : RCl K CR) (iR : ICl K CR) (gR : mg "Ring" = some (.ref CR)) (kRR : PySem.W.kitOne K (.ref CR) (.ref CR) = some true) (F__law_ring_right : Fo P w K mg base "_law_ring_right" ["_law_goals", "_law_signs", "_law_begin", "_law_text", "_law_states", "_law_some_primes"] 3 sp_lring) : FnOk P w K mg base CX0 4 f fd ["_law_answer", "_law_goals", "_law_signs", "_law_begin", "_law_some"] (sp_lrstands CR) := by
  refine F0.ok sc__law_ring_stands (fun vs H Q E h => ?_) (fun cdv A outer s H vs Q E hr h => ?_)
  · obtain ⟨x, b, vp, v, M, vrs, ss, ps, wd, ns, rs, rfl, _⟩ := h
    rfl
  · obtain ⟨x, b, vp, v, M, vrs, ss, ps, wd, ns, rs, rfl, ⟨dx, a, o, hx, ha, hdn⟩, ok, hb, htl, hvp, hRA, hRc, hsub, q⟩ := h
    refine ⟨_, PSs.nox (pss_one (ps_ret (pe_and (pe_callB (callIsi K) (by rfl) T.isinstance (by decide +kernel) (pa_cons (pv 0) (pa_cons (pe_globE (v := .ref CR) ⟨_, gR, rfl⟩ (by rfl)) pa_nil))) (pe_one (pc F__law_ring_right hr (by rfl) (pa_cons (pv 1) (pa_cons (pv 2) (pa_cons (pv 3) (pa_cons (pe_fld (pv 0) rfl) (pa_cons (pe_fld (pv 0) rfl) (pa_cons (pv 4) pa_nil))))))))))), ?_⟩
    refine ⟨_, rfl, _, _, _, _, _, rfl, .own CR, tyIns cR.cls iR hx, kRR, true, rfl, iteT ?_⟩
    refine ⟨_, rfl, _, rfl, _, rfl, _, rfl, x, CR, dx, _, _, rfl, hx, cR.cls, cR.a2, rfl, _, rfl, x, CR, dx, _, _, rfl, hx, cR.cls, cR.a3, rfl, _, rfl, ?_⟩
    exact ⟨b, a, vp, M, vrs, ss, ps, wd, ns, rs, rfl, ok, hb, htl, .inr ⟨o, ha⟩, hvp, hRA, hRc, hsub, q⟩
def sp_lkstands (CR CK : Addr) : Sp := fun vs H Q _ => ∃ (x b : Addr) (v : V) (M : Mc) (vrs : List V), vs = [.ref x, .ref b, .str (al M), .int (M.s0 : Int)] ∧ ((∃ ss rs ws ps, IsKnot CK H x v ss ws ps ∧ M.Ok ∧ H b = some (.lst vrs) ∧ TL H vrs M.rows ∧ KnotA M ss ws ps ∧ Rch M rs ∧ rs.length ≤ 6 ∧ ss.Sublist rs ∧ ss ≠ [] ∧ ∀ H', Same H H' → Q (.bl true) H') ∨
  ∃ wd ns, IsRing CR H x v wd ns ∧ Q (.bl false) H)
theorem ok_lkstands (F0 : FnP K "_law_knot_stands" s__law_knot_stands f fd) (T : Bt mg) (cR : RCl K CR) (cK : KCl K CK) (iR : ICl K CR) (iK : ICl K CK) (gK : mg "Knot" = some (.ref CK)) (kKK : PySem.W.kitOne K (.ref CK) (.ref CK) = some true) (kRK : PySem.W.kitOne K (.ref CR) (.ref CK) = some false) (F__law_knot_right : Fo P w K mg base "_law_knot_right" ["_law_goals", "_law_signs", "_law_begin", "_law_states", "_law_texts_z", "_law_products_z"] 4 sp_lknot) : FnOk P w K mg base CX0 5 f fd ["_law_answer", "_law_goals", "_law_signs", "_law_begin"] (sp_lkstands CR CK) := by
  refine F0.ok sc__law_knot_stands (fun vs H Q E h => ?_) (fun cdv A outer s H vs Q E hr h => ?_)
  · obtain ⟨x, b, v, M, vrs, rfl, _⟩ := h
    rfl
  · obtain ⟨x, b, v, M, vrs, rfl, hq⟩ := h
    refine ⟨_, PSs.nox (pss_one (ps_ret (pe_and (pe_callB (callIsi K) (by rfl) T.isinstance (by decide +kernel) (pa_cons (pv 0) (pa_cons (pe_globE (v := .ref CK) ⟨_, gK, rfl⟩ (by rfl)) pa_nil))) (pe_one (pc F__law_knot_right hr (by rfl) (pa_cons (pv 1) (pa_cons (pv 2) (pa_cons (pv 3) (pa_cons (pe_fld (pv 0) rfl) (pa_cons (pe_fld (pv 0) rfl) (pa_cons (pe_fld (pv 0) rfl) pa_nil))))))))))), ?_⟩
    rcases hq with ⟨ss, rs, ws, ps, ⟨dx, a, o, vw, vp, hx, ha, hdn, hw, hp⟩, ok, hb, htl, hka, hR, h6, hsub, hne, q⟩ | ⟨wd, ns, ⟨dx, a, o, hx, ha, hdn⟩, q⟩
    · refine ⟨_, rfl, _, _, _, _, _, rfl, .own CK, tyIns cK.cls iK hx, kKK, true, rfl, iteT ?_⟩
      refine ⟨_, rfl, _, rfl, _, rfl, _, rfl, x, CK, dx, _, _, rfl, hx, cK.cls, cK.a2, rfl, _, rfl, x, CK, dx, _, _, rfl, hx, cK.cls, cK.a3, rfl, _, rfl, x, CK, dx, _, _, rfl, hx, cK.cls, cK.a4, rfl, ?_⟩
      exact ⟨b, a, o, vw, vp, M, vrs, ss, rs, ws, ps, rfl, ok, hb, htl, ha, hdn, hw, hp, hka, hR, h6, hsub, hne, q⟩
    · exact ⟨_, rfl, _, _, _, _, _, rfl, .own CK, tyIns cR.cls iR hx, kRK, false, rfl, iteF q⟩
end
end Kn
/-! H13 -/
set_option maxHeartbeats 4000000
namespace Kn
open PySem PySem.Spec PyProof.Rows L2
theorem sc_law : FnScope ["_law_script", "_law_bag_here", "_law_goals", "_law_signs", "_law_begin", "_law_machine_z", "_law_found", "_law_some", "_law_late", "_law_told"] ["_law_script"] (defScope s_law) := ⟨rfl, rfl, rfl, by decide +kernel, rfl, by decide +kernel, by decide +kernel⟩
/-- what plain mathematics must give -/
def PlainLaw : Prop := ∀ (rws : List (List Nat)) (n : Nat) (nu : List Nat) (rows : List (List Nat)) (N bn : Nat), IsKn rws n → Ren ((List.range n).map fun a => rws.map fun r => r.getD a 0) rws.length nu rows N → bn < n →
  ∀ rs, Rch ⟨rws.length, rows, nu.getD bn 0⟩ rs → rs.length ≤ 6 ∧ Knotted ⟨rws.length, rows, nu.getD bn 0⟩ rs
def sp_law (K : Fr) (T : List (Addr × Str)) : Sp := fun vs H Q _ => ∃ (a : Addr) (ns : List Int), vs = [.ref a] ∧ SqL K H a (ns.map V.int) ∧ ns.length ≤ 63 ∧ LamX.Tabs T H ∧ ∀ H', Q (.bl true) H'
/-- the making of machines, start by keyword -/
structure MaK (P : Program) (w : World) (K : Fr) (mg : Str → Option Value) (base : Heap) (x : Str) (C : Addr) (ps ks : List Str) (n k : Nat) (sp : Sp) : Prop where
  ex : ∃ f fd mv, FnOk P w K mg base CX0 k f fd ps sp ∧ KBn K fd ps (n + 1) ks (fun us ws => us ++ mv ++ ws) (fun vs zs => vs ++ zs) ∧ Mk K C f
  g : mg x = some (.ref C)
theorem pmkK {X : Cx} {x : Str} {C : Addr} {ps ks : List Str} {sp : Sp} {n j k : Nat} {e : Expr} {es : List Expr} {kws : List Keyword} {t tk : TA} {p pos : Pos} (F : MaK X.prog X.w X.K X.mg X.base x C ps ks n j sp) (hr : Room k X.A) (hg : Gl X x) (ha : PA X (e :: es) t) (hkw : PK X kws tk) (hjk : j + 1 ≤ k := by first | decide | exact Nat.le_refl _)
    (hall : (backToKw pos (keywordEach kws X.env)).all (·.1.isSome) = true := by rfl) (hks : (backToKw pos (keywordEach kws X.env)).filterMap (·.1) = ks := by rfl) (hdb : (x == ("__debug__" : Str)) = false := by decide)
    (he : starEach (e :: es) X.env = (false, eval e X.env) :: starEach es X.env := by rfl) (hpl : ((backTo pos (starEach (e :: es) X.env)).any (·.1) || (backToKw pos (keywordEach kws X.env)).any (·.1.isNone)) = false := by rfl) :
    PE X (.Call (.Name x p) (e :: es) kws pos) (tMakeK C n ks.length sp (fun vs zs => vs ++ zs) E0 t tk) := by
  obtain ⟨f, fd, mv, G, b, m⟩ := F.ex
  exact pe_makeK m G (hr.mono hjk) hg F.g b pass0 ha hkw hall hks hdb he hpl
theorem IsKn.ok {rws : List (List Nat)} {n : Nat} (h : IsKn rws n) {a : Nat} (ha : a < n) : ∀ x ∈ rws.map (fun r => r.getD a 0), x < n := by
  obtain ⟨pr, hpr, hl, ext, hp, he⟩ := h
  intro x hx
  obtain ⟨r, hr, rfl⟩ := List.mem_map.mp hx
  have key : ∀ pr ∈ Base, ∀ r ∈ pr, ∀ y ∈ r, y < r.length := by decide
  rcases List.mem_append.mp (hp.mem_iff.mp hr) with z | z
  · have e := some_getD (l := r) (i := a) (by rw [hl r z]; exact ha)
    have := key pr hpr r z _ (List.mem_of_getElem? e)
    rw [hl r z] at this
    exact this
  · rcases he with rfl | ⟨c, hc, rfl⟩
    · exact (List.not_mem_nil z).elim
    · rw [List.mem_singleton.mp z]
      rw [List.getD_eq_getElem?_getD, List.getElem?_replicate, if_pos ha]
      exact hc
theorem abc_cut {k : Nat} (h2 : 2 ≤ k) (h3 : k ≤ 3) : cutS (Str.ofString "abc") none (some (k : Int)) = txt (List.range k) := by
  rcases (by omega : k = 2 ∨ k = 3) with rfl | rfl
  · decide +kernel
  · decide +kernel
theorem Bag.neT {H : Hp} {bg cl b : Addr} {vs : List V} {rows : List (List Nat)} (B : Bag H bg cl) (h : H b = some (.lst vs)) (t : TL H vs rows) (h2 : 2 ≤ rows.length) : b ≠ bg := fun e => by
  obtain ⟨ns, i, g, m, d, hb, _⟩ := B
  rw [e, hb] at h
  have z := HO.lst.inj (Option.some.inj h)
  subst z
  obtain ⟨r, _, a, e1, _⟩ := t.2 1 (.int (i : Int)) rfl
  cases e1
theorem Bag.extN {H H' : Hp} {bg cl : Addr} (B : Bag H bg cl) (e : LamX.ExtN H H') : Bag H' bg cl := by
  obtain ⟨ns, i, g, m, d, h1, h2, h⟩ := B
  exact ⟨ns, i, g, m, d, e _ _ h1 (fun ps z => nomatch z), e _ _ h2 (fun ps z => nomatch z), h⟩
theorem tabs_keep {H H' : Hp} {bg cl : Addr} {T : List (Addr × Str)} (B : Bag H bg cl) (k : KeepX bg H H') (t : LamX.Tabs T H) : LamX.Tabs T H' := fun p hp => by
  obtain ⟨ps, h1, h2, h3⟩ := t p hp
  obtain ⟨ns, i, g, m, d, hb, _⟩ := B
  refine ⟨ps, k _ _ (ne_of h1 hb (fun z => nomatch z)) h1, h2, fun pos cv hc => ?_⟩
  obtain ⟨c, e1, e2⟩ := h3 pos cv hc
  exact ⟨c, e1, k _ _ (ne_of e2 hb (fun z => by unfold LamX.CodeO at z; cases z)) e2⟩
theorem TL.keepX {H H' : Hp} {bg cl : Addr} {vs : List V} {rows : List (List Nat)} (B : Bag H bg cl) (k : KeepX bg H H') (t : TL H vs rows) : TL H' vs rows := t.tame (k.tameB B)
theorem IsM.keepX {C : Addr} {H H' : Hp} {bg cl : Addr} {v : V} {M : Mc} (B : Bag H bg cl) (k : KeepX bg H H') (h2 : 2 ≤ M.rows.length) (h : IsM C H v M) : IsM C H' v M := by
  obtain ⟨ok, a, dx, b, vrs, rfl, h1, hb, h3⟩ := h
  obtain ⟨ns, i, g, m, d, hbg, _⟩ := id B
  exact ⟨ok, a, dx, b, vrs, rfl, k _ _ (ne_of h1 hbg (fun z => nomatch z)) h1, k _ _ (B.neT hb h3 h2) hb, h3.keepX B k⟩
theorem IsKnot.keepX {C : Addr} {H H' : Hp} {bg cl x : Addr} {v : V} {ss : List Nat} {ws : List (List Nat)} {ps : Prs} (B : Bag H bg cl) (k : KeepX bg H H') (h : IsKnot C H x v ss ws ps) : IsKnot C H' x v ss ws ps := by
  obtain ⟨dx, a, o, vw, vp, hx, ha, hd, hw, hp⟩ := h
  obtain ⟨ns, i, g, m, d, hbg, _⟩ := id B
  have t := k.tameB B
  exact ⟨dx, a, o, vw, vp, k _ _ (ne_of hx hbg (fun z => nomatch z)) hx, t.2 _ _ _ ha, hd, stab_str.tup _ _ _ _ t hw, stab_pr _ _ _ _ t hp⟩
theorem tame_extN {H H' : Hp} (e : LamX.ExtN H H') : Tame H H' := ⟨fun b xs h => e _ _ h (fun ps z => nomatch z), fun b o u h => e _ _ h (fun ps z => nomatch z)⟩
theorem IsKnot.extN {C : Addr} {H H' : Hp} {x : Addr} {v : V} {ss : List Nat} {ws : List (List Nat)} {ps : Prs} (e : LamX.ExtN H H') (h : IsKnot C H x v ss ws ps) : IsKnot C H' x v ss ws ps := by
  obtain ⟨dx, a, o, vw, vp, hx, ha, hd, hw, hp⟩ := h
  have t := tame_extN e
  exact ⟨dx, a, o, vw, vp, e _ _ hx (fun ps z => nomatch z), t.2 _ _ _ ha, hd, stab_str.tup _ _ _ _ t hw, stab_pr _ _ _ _ t hp⟩
theorem TL.extN {H H' : Hp} {vs : List V} {rows : List (List Nat)} (e : LamX.ExtN H H') (t : TL H vs rows) : TL H' vs rows := t.tame (tame_extN e)
theorem IsKnot.same {C : Addr} {H H' : Hp} {x : Addr} {v : V} {ss : List Nat} {ws : List (List Nat)} {ps : Prs} (s : Same H H') (h : IsKnot C H x v ss ws ps) : IsKnot C H' x v ss ws ps := h.extN (LamX.ExtN.of s)
theorem IsRing.same {C : Addr} {H H' : Hp} {x : Addr} {v : V} {wd ns : List Nat} (s : Same H H') (h : IsRing C H x v wd ns) : IsRing C H' x v wd ns := by
  obtain ⟨dx, a, o, hx, ha, hd⟩ := h
  exact ⟨dx, a, o, s _ _ hx, s _ _ ha, hd⟩
def Late (CR CK : Addr) (M : Mc) (v : V) (ps rs : List Nat) (H : Hp) (y : Addr) : Prop := (∃ ss wd ns, ss.Sublist rs ∧ IsRing CR H y v wd ns ∧ RingA M ss ps wd ns) ∨ ∃ ss ws prs, ss.Sublist rs ∧ ss ≠ [] ∧ IsKnot CK H y v ss ws prs ∧ KnotA M ss ws prs
theorem Late.same {CR CK : Addr} {M : Mc} {v : V} {ps rs : List Nat} {H H' : Hp} {y : Addr} (s : Same H H') (h : Late CR CK M v ps rs H y) : Late CR CK M v ps rs H' y := by
  rcases h with ⟨ss, wd, ns, h1, h2, h3⟩ | ⟨ss, ws, prs, h1, h2, h3, h4⟩
  · exact .inl ⟨ss, wd, ns, h1, h2.same s, h3⟩
  · exact .inr ⟨ss, ws, prs, h1, h2, h3.same s, h4⟩
theorem leaf_tt (v : V) (h : v ∈ [V.bl true, V.bl true]) : Leaf v := by
  simp only [List.mem_cons, List.not_mem_nil, or_false, or_self] at h
  exact .inl ⟨true, h⟩
theorem same_made {H : Hp} {x dx C : Addr} {H' : Hp} (nx : H x = none) (ndx : H dx = none) (hk : ∀ c o, c ≠ x → (upd (upd H dx (.own x)) x (.ins C dx [])) c = some o → H' c = some o) : Same H H' := fun c o e => by
  have h1 : c ≠ x := ne_of_none e nx
  have h2 : c ≠ dx := ne_of_none e ndx
  exact hk c o h1 (by rw [upd_ne h1, upd_ne h2]; exact e)
section
variable {P : Program} {w : World} {K : Fr} {mg : Str → Option Value} {base : Heap} {fd fdr : FuncData} {f CM CR CK Pt : Addr}
theorem ok_law (hplain : PlainLaw) (F0 : FnP K "law" s_law f fd) (T : Bt mg) (cR : RCl K CR) (cK : KCl K CK) (iR : ICl K CR) (iK : ICl K CK) (gK : mg "Knot" = some (.ref CK)) (kKK : PySem.W.kitOne K (.ref CK) (.ref CK) = some true)
    (F__law_bag : Fo P w K mg base "_law_bag" ["_law_script"] 1 (sp_lbag K)) (F__law_knotted : Fo P w K mg base "_law_knotted" ["_law_bag_here"] 3 sp_lknotted) (F__law_pull : Fo P w K mg base "_law_pull" ["_law_bag_here", "_law_sides"] 1 sp_lpull)
    (F__law_renamed : Fo P w K mg base "_law_renamed" ["_law_bag_here", "_law_goals", "_law_begin"] 3 sp_lren) (F_Machine : MaK P w K mg base "Machine" CM ["self", "alphabet", "rows", "start"] ["start"] 2 4 (sp_minit CM)) (F_build : Vo P w K mg base "build" 10 (sp_build CM CR CK [(Pt, lamQ)]))
    (F_K_is_built : Po P w K mg base CK "is_built" 1 sp_isbuilt) (F__law_knot_stands : Fo P w K mg base "_law_knot_stands" ["_law_answer", "_law_goals", "_law_signs", "_law_begin"] 5 (sp_lkstands CR CK)) (F__law_primes : Fo P w K mg base "_law_primes" ["_law_bag_here"] 2 sp_lprimes)
    (F__law_build : Fo P w K mg base "_law_build" ["_law_machine_z", "_law_some"] 11 (sp_lbuild CM CR CK [(Pt, lamQ)])) (F__law_ring_stands : Fo P w K mg base "_law_ring_stands" ["_law_answer", "_law_goals", "_law_signs", "_law_begin", "_law_some"] 4 (sp_lrstands CR))
    (F__law_holds : Fo P w K mg base "_law_holds" ["_law_answer", "_law_some"] 9 (fun vs H Q E => sp_lholds CK (sp_kholds CM CK) vs H Q E ∨ sp_lholds CR (sp_rholds CM CR) vs H Q E)) (F__law_same : Fo P w K mg base "_law_same" ["_law_found", "_law_due"] 2 sp_lsame1)
    (F_K_told : Mo P w K mg base CK "told" ["self"] 1 (sp_ktold CK)) {fr : Addr} (hrf : PySem.W.findIn K (.ref CK) "__repr__" = some (some (.ref fr))) (hrt : PySem.W.typeIn K (.ref fr) = some (.type "function")) (FR : FnOk P w K mg base CX0 2 fr fdr ["self"] (sp_krepr CK)) (hRb : Binds K fdr ["self"] []) :
    FnOk P w K mg base CX0 12 f fd ["_law_script"] (sp_law K [(Pt, lamQ)]) := by
  refine F0.ok sc_law (fun vs H Q E h => ?_) (fun cdv A outer s H vs Q E hr h => ?_)
  · obtain ⟨a, ns, rfl, _⟩ := h
    rfl
  · obtain ⟨a, ns, rfl, ha, hl, hT, q⟩ := h
    refine ⟨_, PSs.nox (pss_cons (ps_set (i := 1) sc_law.nd rfl (Or.inl rfl) (pc F__law_bag hr (by rfl) (pa_cons (pv 0) pa_nil)))
  (pss_cons (ps_set (i := 2) sc_law.nd rfl (Or.inl rfl) (pc F__law_knotted hr (by rfl) (pa_cons (pv 1) pa_nil)))
  (pss_cons (ps_set (i := 3) sc_law.nd rfl (Or.inl rfl) (pe_slice sl_str pe_str po_none (po_some (pe_callB (callLenSeq K) (by rfl) T.len PySem.boot_len (pa_cons (pe_ix (ixL K) (pv 2) pe_int (fun _ _ => rfl)) pa_nil)))))
  (pss_cons (ps_asg (pc F__law_renamed hr (by rfl) (pa_cons (pv 1) (pa_cons (pv 2) (pa_cons (pc F__law_pull hr (by rfl) (pa_cons (pv 1) (pa_cons (pe_callB (callLenSeq K) (by rfl) T.len PySem.boot_len (pa_cons (pv 2) pa_nil)) pa_nil))) pa_nil)))) (pg_tupK K rfl (pgs_cons (pg_name (i := 2) sc_law.nd rfl (Or.inl rfl)) (pgs_cons (pg_name (i := 4) sc_law.nd rfl (Or.inl rfl)) pgs_nil))))
  (pss_cons (ps_set (i := 5) sc_law.nd rfl (Or.inl rfl) (pmkK F_Machine hr (by rfl) (pa_cons (pv 3) (pa_cons (pv 2) pa_nil)) (pk_cons (pv 4) pk_nil)))
  (pss_cons (ps_set (i := 6) sc_law.nd rfl (Or.inl rfl) (pcV F_build hr (by rfl) (pa_cons (pv 5) (pa_cons pe_int (pa_cons pe_int (pa_cons pe_int (pa_cons pe_int pa_nil)))))))
  (pss_cons (ps_if (PW.pt (pw_or (pt_not (pt_val (pe_callB (callIsi K) (by rfl) T.isinstance (by decide +kernel) (pa_cons (pv 6) (pa_cons (pe_globE (v := .ref CK) ⟨_, gK, rfl⟩ (by rfl)) pa_nil))))) (pw_or1 (pt_val (pp F_K_is_built cK.cls (pv 6) hr))))) (pss_one (ps_ret pe_bl)) pss_nil)
  (pss_cons (ps_if (pt_not (pt_val (pc F__law_knot_stands hr (by rfl) (pa_cons (pv 6) (pa_cons (pv 2) (pa_cons (pv 3) (pa_cons (pv 4) pa_nil))))))) (pss_one (ps_ret pe_bl)) pss_nil)
  (pss_cons (ps_set (i := 7) sc_law.nd rfl (Or.inl rfl) (pc F__law_primes hr (by rfl) (pa_cons (pv 1) pa_nil)))
  (pss_cons (ps_set (i := 8) sc_law.nd rfl (Or.inl rfl) (pc F__law_build hr (by rfl) (pa_cons (pv 5) (pa_cons (pv 7) pa_nil))))
  (pss_cons (ps_if (PW.pt (pw_and (pt_not (pt_val (pc F__law_knot_stands hr (by rfl) (pa_cons (pv 8) (pa_cons (pv 2) (pa_cons (pv 3) (pa_cons (pv 4) pa_nil))))))) (pw_and1 (pt_not (pt_val (pc F__law_ring_stands hr (by rfl) (pa_cons (pv 8) (pa_cons (pv 2) (pa_cons (pv 3) (pa_cons (pv 4) (pa_cons (pv 7) pa_nil))))))))))) (pss_one (ps_ret pe_bl)) pss_nil)
  (pss_cons (ps_if (pt_not (pt_val (pc F__law_same hr (by rfl) (pa_cons (pe_lst (pa_cons (pc F__law_holds hr (by rfl) (pa_cons (pv 6) (pa_cons (pv 7) pa_nil))) (pa_cons (pc F__law_holds hr (by rfl) (pa_cons (pv 8) (pa_cons (pv 7) pa_nil))) pa_nil))) (pa_cons (pe_lst (pa_cons pe_bl (pa_cons pe_bl pa_nil))) pa_nil))))) (pss_one (ps_ret pe_bl)) pss_nil)
  (pss_cons (ps_set (i := 9) sc_law.nd rfl (Or.inl rfl) (pe_op op_add_str (pe_op op_add_str pe_str (pe_callTy call_str_int (by rfl) T.str (by decide +kernel) (pa_cons (pe_callB (callLenSeq K) (by rfl) T.len PySem.boot_len (pa_cons (pe_fld (pv 6) rfl) pa_nil)) pa_nil))) pe_str))
  (pss_one (ps_ret (pc F__law_same hr (by rfl) (pa_cons (pe_lst (pa_cons (pm0 F_K_told cK.cls (pv 6) hr) (pa_cons (pe_callB (call_reprI hrf hrt FR hRb (hr.mono (by decide))) (by rfl) T.repr (by decide +kernel) (pa_cons (pv 6) pa_nil)) pa_nil))) (pa_cons (pe_lst (pa_cons (pv 9) (pa_cons (pe_op op_add_str (pe_op op_add_str pe_str (pv 9)) pe_str) pa_nil))) pa_nil)))))))))))))))))), ?_⟩
    -- the bag, the rows
    refine ⟨_, rfl, a, ns, rfl, ha, hl, fun H1 bg cl nbg s1 hB1 => ?_⟩
    refine ⟨_, rfl, bg, cl, rfl, hB1, fun H2 c vgs rws n nc k2 hB2 hc htl hK => ?_⟩
    obtain ⟨hn56, hr2, hr3, hrl⟩ := hK.n6
    generalize hgs : ((List.range n).map fun a => rws.map fun r => r.getD a 0) = gs at htl
    have hgl : gs.length = n := by rw [← hgs, List.length_map, List.length_range]
    have hgk : ∀ g ∈ gs, g.length = rws.length ∧ ∀ x ∈ g, x < gs.length := fun g hg => by
      rw [← hgs] at hg
      obtain ⟨a, ha, rfl⟩ := List.mem_map.mp hg
      rw [hgl]
      exact ⟨List.length_map _, hK.ok (List.mem_range.mp ha)⟩
    have hvl : vgs.length = n := by rw [htl.1, hgl]
    have hcbg : c ≠ bg := hB1.ne nc
    -- the signs
    obtain ⟨g0, hg0⟩ : ∃ g0, gs[0]? = some g0 := ⟨_, List.getElem?_eq_getElem (by omega)⟩
    obtain ⟨vg0, hvg0, ag0, rfl, hag0⟩ := htl.at hg0
    have hg0k := (hgk g0 (List.mem_of_getElem? hg0)).1
    refine ⟨_, rfl, c, vgs, 0, .ref ag0, rfl, rfl, SqL.of hc, atI_nat (j := 0) hvg0, ag0, _, rfl, .inr (SqT.of hag0), (rws.length : Int), by rw [tI_len, hg0k], Str.ofString "abc", rfl, szl (by decide), ?_⟩
    rw [abc_cut hr2 hr3]
    -- renamed
    refine ⟨_, rfl, _, rfl, _, rfl, _, rfl, c, vgs, rfl, .inl (SqL.of hc), bg, cl, vgs.length, rfl, hB2, by omega, by omega, fun H3 bn hbn k3 hB3 => ?_⟩
    refine ⟨bg, cl, c, vgs, gs, rws.length, bn, rfl, hB3, hcbg, k3 _ _ hcbg hc, htl.keepX hB2 k3, by omega, by omega, by omega, hr3, hgk, by omega, fun H4 t cR4 vrs nu rows N ncR k4 hB4 ht hcR htr hRen => ?_⟩
    refine ⟨t, _, rfl, SqT.of ht, rfl, _, _, rfl, _, _, rfl, rfl, ?_⟩
    obtain ⟨M, hM⟩ : ∃ M : Mc, M = ⟨rws.length, rows, nu.getD bn 0⟩ := ⟨_, rfl⟩
    have ek : rws.length = M.k := by rw [hM]
    have er : rows = M.rows := by rw [hM]
    have es : nu.getD bn 0 = M.s0 := by rw [hM]
    have hN : rows.length = N := hRen.len
    have hlo := hRen.lo
    have hhi := hRen.hi
    have hnuN : ∀ y, y < N → nu.getD y 0 < N := fun y hy => by
      have e := some_getD (l := nu) (i := y) (by rw [hRen.perm.length_eq, List.length_range]; exact hy)
      exact List.mem_range.mp (hRen.perm.mem_iff.mp (List.mem_of_getElem? e))
    have ok : M.Ok := by
      refine ⟨by rw [← ek]; omega, by rw [← ek]; exact hr3, by rw [← er]; omega, by rw [← er]; omega, fun r hr' => ?_, by rw [← es, ← er, hN]; exact hnuN bn (by omega)⟩
      rw [← er] at hr' ⊢
      rw [← ek, hN]
      exact hRen.ok r hr'
    have hpl : ∀ rs, Rch M rs → rs.length ≤ 6 ∧ Knotted M rs := by
      rw [hM]
      exact hplain rws n nu rows N bn hK (by rw [hgs]; exact hRen) (by omega)
    have h2r : 2 ≤ M.rows.length := by rw [← er]; omega
    rw [es, show txt (List.range rws.length) = al M by unfold al; rw [ek]]
    rw [er] at htr
    -- the machine
    refine ⟨_, rfl, _, rfl, _, rfl, rfl, rfl, fun x dx nx ndx hxd => ?_⟩
    have nxR : cR4 ≠ x := ne_of_none hcR nx
    have ndR : cR4 ≠ dx := ne_of_none hcR ndx
    refine ⟨x, dx, cR4, M, vrs, rfl, ok, upd_same, by rw [upd_ne nxR, upd_ne ndR]; exact hcR, htr.same (fun c o e => by rw [upd_ne (ne_of_none e nx), upd_ne (ne_of_none e ndx)]; exact e), fun H5 b5 hk5 hx5 hb5 => ⟨rfl, ?_⟩⟩
    have s5 := same_made nx ndx hk5
    have hM5 : IsM CM H5 (.ref x) M := ⟨ok, x, dx, b5, vrs, rfl, hx5, hb5, htr.same s5⟩
    have hB5 := hB4.same s5
    have hT5 : LamX.Tabs [(Pt, lamQ)] H5 := (tabs_keep hB3 k4 (tabs_keep hB2 k3 (tabs_keep hB1 k2 (hT.ext s1)))).ext s5
    have hc5 := s5 _ _ hcR
    have htr5 := htr.same s5
    -- build(machine, 2, 3, 5, 7)
    refine ⟨_, rfl, .ref x, [.int 2, .int 3, .int 5, .int 7], rfl, Nat.le_of_ble_eq_true rfl, fun p np => ?_⟩
    have sp5 := same_upd (o := .tup [.int 2, .int 3, .int 5, .int 7]) np
    refine ⟨.ref x, p, M, [2, 3, 5, 7], rfl, hM5.same sp5, hpl, upd_same, by decide, hT5.ext sp5, fun H6 x6 rs ss wd ns e6 T6 hR hsub hring hRA => ?_, fun H6 x6 rs ss ws prs e6 T6 hR hsub hne hk hka => ?_⟩
    · exfalso
      have hp := hRA.pr
      have hno := hRA.no
      unfold prm at hp
      simp only [Bool.or_eq_true, beq_iff_eq] at hp
      simp only [List.mem_cons, List.not_mem_nil, or_false] at hno
      omega
    · have e56 := (LamX.ExtN.of sp5).trans e6
      obtain ⟨hrs6, _⟩ := hpl rs hR
      have hM6 := hM5.extN e56
      have hB6 := hB5.extN e56
      have hc6 := e56 _ _ hc5 (fun ps z => nomatch z)
      have htr6 := htr5.extN e56
      obtain ⟨dx6, a6, o6, vw6, vp6, hx6, _⟩ := id hk
      refine ⟨_, rfl, _, _, _, _, _, rfl, .own CK, tyIns cK.cls iK hx6, kKK, true, rfl, iteF ?_⟩
      refine ⟨_, rfl, x6, dx6, _, rfl, hx6, x6, rfl, false, rfl, iteF ?_⟩
      refine ⟨_, rfl, _, rfl, _, rfl, _, rfl, x6, cR4, .ref x, M, vrs, rfl, .inl ⟨ss, rs, ws, prs, hk, ok, hc6, htr6, hka, hR, hrs6, hsub, hne, fun H7 s7 => ⟨true, rfl, iteF ?_⟩⟩⟩
      -- primes
      have hB7 := hB6.same s7
      refine ⟨_, rfl, bg, cl, rfl, hB7, fun H8 c8 ps nc8 k8 hB8 hc8 hpl8 hps => ?_⟩
      have hM8 := (hM6.same s7).keepX hB7 k8 h2r
      have hk8 := (hk.same s7).keepX hB7 k8
      have htr7 := htr6.same s7
      have hc7 := s7 _ _ hc6
      have hcR8 := k8 _ _ (hB7.neT hc7 htr7 h2r) hc7
      have htr8 := htr7.keepX hB7 k8
      have hT8 := tabs_keep hB7 k8 (T6.ext s7)
      have hpr8 : ∀ p ∈ ps, prm p = true ∧ p ≤ 8 := fun p hp => by
        rcases hps p hp with rfl | rfl | rfl
        · decide
        · decide
        · decide
      -- late
      dsimp only
      refine seq_intro (fun σ' H' => ∃ y, σ' = [some (.ref a), some (.ref bg), some (.ref cR4), some (.str (al M)), some (.int (M.s0 : Int)), some (.ref x), some (.ref x6), some (.ref c8), some (.ref y), none] ∧ LamX.ExtN H8 H' ∧ Late CR CK M (.ref x) ps rs H' y) ?_ (fun rest => ?_)
      · rintro σ9 H9 ⟨y, rfl, e9, hL⟩
        have hk9 := hk8.extN e9
        have hc9 := e9 _ _ hc8 (fun ps z => nomatch z)
        have hcR9 := e9 _ _ hcR8 (fun ps z => nomatch z)
        have htr9 := htr8.extN e9
        have hM9 := hM8.extN e9
        refine seq_intro (fun σ' H' => σ' = [some (.ref a), some (.ref bg), some (.ref cR4), some (.str (al M)), some (.int (M.s0 : Int)), some (.ref x), some (.ref x6), some (.ref c8), some (.ref y), none] ∧ Same H9 H') ?_ (fun rest2 => ?_)
        · rintro σ10 H10 ⟨rfl, s10⟩
          have hk10 := hk9.same s10
          have hL10 := hL.same s10
          have hM10 := hM9.same s10
          have hc10 := s10 _ _ hc9
          obtain ⟨dx0, a0, o0, vw0, vp0, hx0, _⟩ := id hk10
          refine seq_intro (fun σ' H' => σ' = [some (.ref a), some (.ref bg), some (.ref cR4), some (.str (al M)), some (.int (M.s0 : Int)), some (.ref x), some (.ref x6), some (.ref c8), some (.ref y), none] ∧ Same H10 H') ?_ (fun rest3 => ?_)
          · rintro σ11 H11 ⟨rfl, s11⟩
            have hk11 := hk10.same s11
            obtain ⟨dx1, a1, o1, vw1, vp1, hx1, ha1, hd1, ⟨aw, us, rfl, haw, hul, _⟩, _⟩ := id hk11
            have hfew := hka.few
            have hbs := PyProof.Rows.int_text_len_1921 (log_small (n := us.length) (by omega))
            -- told
            refine ⟨_, rfl, x6, CK, dx1, _, _, rfl, hx1, cK.cls, cK.a3, rfl, aw, _, rfl, .inr (SqT.of haw), (us.length : Int), rfl, log_small (by omega), _, _, rfl, rfl, szl (by show 8 + _ ≤ 1000000; omega), _, _, rfl, rfl, szl (by rw [str_app_len]; show 8 + _ + 6 ≤ 1000000; omega), ?_⟩
            have eT : (Str.ofString "knot of " ++ toString (us.length : Int) ++ Str.ofString " words") = toldK ws.length := by rw [hul]; rfl
            have hws : ws.length ≤ 50000 := by omega
            have hbt := toldK_len hws
            dsimp only
            rw [eT]
            -- same([found.told(), repr(found)], [told, 'Answer(' + told + ')'])
            refine ⟨_, rfl, x6, dx1, _, rfl, hx1, rfl, x6, .ref x, ss, ws, prs, rfl, hk11, hws, ?_⟩
            refine ⟨_, rfl, x6, dx1, _, rfl, hx1, x6, .ref x, ss, ws, prs, rfl, hk11, hws, _, rfl, szl (by show 2 ≤ 1000000; decide), fun l1 nl1 => ?_⟩
            refine ⟨_, rfl, _, rfl, _, _, rfl, rfl, szl (by show 7 + _ ≤ 1000000; omega), _, _, rfl, rfl, szl (by rw [str_app_len]; show 7 + _ + 1 ≤ 1000000; omega), szl (by show 2 ≤ 1000000; decide), fun l2 nl2 => ?_⟩
            refine ⟨l1, l2, _, rfl, same_upd nl2 _ _ upd_same, upd_same, Nat.le_of_ble_eq_true rfl, fun v hv => ?_, fun H' _ => q H'⟩
            simp only [List.mem_cons, List.not_mem_nil, or_false] at hv
            rcases hv with rfl | rfl
            · exact .inr ⟨_, rfl⟩
            · exact .inr ⟨_, rfl⟩
          · -- same([holds(found), holds(late)], [True, True])
            refine ⟨_, rfl, _, rfl, .inl ⟨x6, c8, dx0, _, ps, rfl, hx0, rfl, hc10, hpl8, fun H11 p s11 hp => ⟨x6, p, .ref x, M, rs, ss, ws, prs, rfl, hM10.same s11, hk10.same s11, hka, hR, hrs6, hsub, hne, fun H12 s12 => ?_⟩⟩⟩
            have s1012 := s11.trans s12
            rcases hL10.same s1012 with ⟨ss', wd, ns', hsub', hring, hRA⟩ | ⟨ss', ws', prs', hsub', hne', hk', hka'⟩
            · obtain ⟨dy, ay, oy, hy, _⟩ := id hring
              refine ⟨_, rfl, _, rfl, .inr ⟨y, c8, dy, _, ps, rfl, hy, rfl, s1012 _ _ hc10, hpl8, fun H13 p' s13 hp' => ⟨y, p', .ref x, M, rs, ss', ps, wd, ns', rfl, hM10.same (s1012.trans s13), hring.same s13, hRA, hR, hrs6, hsub', hp', fun H14 s14 => ⟨szl (by show 2 ≤ 1000000; decide), fun l1 nl1 => ⟨szl (by show 2 ≤ 1000000; decide), fun l2 nl2 => ?_⟩⟩⟩⟩⟩
              exact ⟨l1, l2, _, rfl, same_upd nl2 _ _ upd_same, upd_same, by decide, fun v hv => leaf_tt v hv, fun H' s' => ⟨true, rfl, iteF (rest3 _ _ ⟨rfl, s1012.trans (s13.trans (s14.trans ((same_upd nl1).trans ((same_upd nl2).trans s'))))⟩)⟩⟩
            · obtain ⟨dy, ay, oy, vwy, vpy, hy, _⟩ := id hk'
              refine ⟨_, rfl, _, rfl, .inl ⟨y, c8, dy, _, ps, rfl, hy, rfl, s1012 _ _ hc10, hpl8, fun H13 p' s13 hp' => ⟨y, p', .ref x, M, rs, ss', ws', prs', rfl, hM10.same (s1012.trans s13), hk'.same s13, hka', hR, hrs6, hsub', hne', fun H14 s14 => ⟨szl (by show 2 ≤ 1000000; decide), fun l1 nl1 => ⟨szl (by show 2 ≤ 1000000; decide), fun l2 nl2 => ?_⟩⟩⟩⟩⟩
              exact ⟨l1, l2, _, rfl, same_upd nl2 _ _ upd_same, upd_same, by decide, fun v hv => leaf_tt v hv, fun H' s' => ⟨true, rfl, iteF (rest3 _ _ ⟨rfl, s1012.trans (s13.trans (s14.trans ((same_upd nl1).trans ((same_upd nl2).trans s'))))⟩)⟩⟩
        · -- not knot_stands(late) and not ring_stands(late)
          rcases hL with ⟨ss', wd, ns', hsub', hring, hRA⟩ | ⟨ss', ws', prs', hsub', hne', hk', hka'⟩
          · refine ⟨_, rfl, _, rfl, _, rfl, _, rfl, y, cR4, .ref x, M, vrs, rfl, .inr ⟨wd, ns', hring, false, rfl, iteT ?_⟩⟩
            refine ⟨_, rfl, _, rfl, _, rfl, _, rfl, _, rfl, y, cR4, c8, .ref x, M, vrs, ss', ps, wd, ns', rs, rfl, hring, ok, hcR9, htr9, hc9, hRA, hR.rc, fun s hs => hsub'.subset (hRA.sub s hs), fun H' s' => ⟨true, rfl, iteF (rest2 _ _ ⟨rfl, s'⟩)⟩⟩
          · exact ⟨_, rfl, _, rfl, _, rfl, _, rfl, y, cR4, .ref x, M, vrs, rfl, .inl ⟨ss', rs, ws', prs', hk', ok, hcR9, htr9, hka', hR, hrs6, hsub', hne', fun H' s' => ⟨true, rfl, iteF (iteF (rest2 _ _ ⟨rfl, s'⟩))⟩⟩⟩
      · refine ⟨_, rfl, _, rfl, .ref x, c8, M, ps, rfl, hM8, hpl, hc8, hpl8, hpr8, hT8, fun H' y rs' ss' wd ns' e' T' hR' hsub' hring hRA => ?_, fun H' y rs' ss' ws' prs' e' T' hR' hsub' hne' hk' hka' => ?_⟩
        · obtain rfl := hR.uniq hR'
          exact rest _ _ ⟨y, rfl, e', .inl ⟨ss', wd, ns', hsub', hring, hRA⟩⟩
        · obtain rfl := hR.uniq hR'
          exact rest _ _ ⟨y, rfl, e', .inr ⟨ss', ws', prs', hsub', hne', hk', hka'⟩⟩
end
end Kn
/-! M4 -/
set_option maxHeartbeats 1000000
namespace Kn
open PySem PySem.Spec PyProof.Rows L2
/-- what a word of two letters does -/
def Fw2 (pr : List (List Nat)) (w : List Nat) (j : Nat) : Nat := w.foldl (fun j t => (pr.getD t []).getD j 0) j
abbrev Cw := List Nat × List Nat × Nat × Nat
def cw0 : List Cw := [([0, 0], [0], 1, 0), ([0, 1, 0, 0, 1, 1, 0, 1], [0, 1, 0, 0, 1, 1, 0, 1], 2, 3), ([0, 0, 1, 0], [0, 0, 1, 1, 0], 4, 3), ([1, 0, 0, 1, 1], [1, 0, 1, 1], 0, 2), ([1], [1, 1], 1, 4)]
def cw1 : List Cw := [([0, 0, 1, 0, 0, 1, 0, 0], [0, 1, 0, 0, 1, 0], 1, 0), ([1, 0, 1, 0], [1, 0, 1, 0], 2, 3), ([0, 0, 0, 1, 0, 0, 1, 0], [0, 0, 1, 0, 0, 1], 4, 3), ([0, 0, 0, 1, 0, 1], [0, 1, 0, 1, 0, 0, 0], 0, 2), ([0, 0, 0, 1, 0, 0, 0, 1], [1, 0, 0, 1, 0, 0], 1, 4)]
def cw2 : List Cw := [([0, 0, 0, 0, 1], [1, 1, 0], 1, 0), ([0, 0, 0, 1, 0, 1, 0], [0, 0, 0, 1, 0, 1, 0], 2, 3), ([0, 0, 0, 0, 1, 0], [0, 1, 0, 0, 0], 4, 3), ([1, 0, 0, 0, 0], [0, 1, 1], 0, 2), ([1], [1, 1], 1, 4)]
def cw3 : List Cw := [([0, 0, 0, 0, 1, 0, 0, 1, 0, 1], [0, 1, 0, 0, 1, 0, 1, 0, 0], 1, 0), ([1, 0, 0, 0, 1, 0, 0, 1], [1, 0, 0, 0, 1, 0, 0, 1], 2, 3), ([0, 0, 0, 1, 0, 1, 0, 0, 1, 0, 0, 1], [0, 0, 1, 0, 0, 1, 0, 1, 0, 0], 4, 3), ([0, 0, 0, 1, 0, 0, 1, 0, 1, 0], [1, 0, 0, 1, 0, 1, 0, 0, 0], 0, 2), ([0, 0, 0, 1, 0, 0, 1, 0, 1], [0, 1, 0, 0, 1, 0, 1, 0, 0, 0], 1, 4)]
def sw : List (List Nat) := (List.range 5).flatMap (rowsN 2)
def goodL (n : Nat) (pr : List (List Nat)) : Bool := pr.length == 2 && pr.all fun g => g.length == n && ((List.range n).all (fun j => decide (g.getD j 0 < n)) && (List.range n).all fun i => (List.range n).all fun j => decide (g.getD i 0 = g.getD j 0 → i = j))
def goodC (n : Nat) (pr : List (List Nat)) (L : List Cw) : Bool := L.all fun e => (e.1.all (fun t => decide (t < 2)) && e.2.1.all fun t => decide (t < 2)) && ((List.range n).all (fun j => decide (Fw2 pr (e.1 ++ e.2.1) j = j)) && (decide (e.2.2.1 < L.length ∧ e.2.2.2 < L.length) &&
  (List.range n).all fun j => decide (Fw2 pr e.1 j = Fw2 pr ((L.getD e.2.2.1 ([], [], 0, 0)).1 ++ (L.getD e.2.2.2 ([], [], 0, 0)).1 ++ ((L.getD e.2.2.1 ([], [], 0, 0)).2.1 ++ (L.getD e.2.2.2 ([], [], 0, 0)).2.1)) j)))
def goodM (n : Nat) (pr : List (List Nat)) (L : List Cw) : Bool := decide (0 < L.length) && (List.range n).any fun j => decide (Fw2 pr (L.getD 0 ([], [], 0, 0)).1 j ≠ j)
def goodR (n : Nat) (pr : List (List Nat)) : Bool := (List.range n).all fun i => (List.range n).all fun j => sw.any fun w => w.all (fun t => decide (t < 2)) && decide (Fw2 pr w i = j)
theorem base_good : ∀ pr ∈ Base, ∃ n L, goodL n pr = true ∧ goodC n pr L = true ∧ goodM n pr L = true ∧ goodR n pr = true := by
  intro pr h
  unfold Base at h
  simp only [List.mem_cons, List.not_mem_nil, or_false] at h
  rcases h with rfl | rfl | rfl | rfl
  · exact ⟨5, cw0, by decide +kernel, by decide +kernel, by decide +kernel, by decide +kernel⟩
  · exact ⟨5, cw1, by decide +kernel, by decide +kernel, by decide +kernel, by decide +kernel⟩
  · exact ⟨5, cw2, by decide +kernel, by decide +kernel, by decide +kernel, by decide +kernel⟩
  · exact ⟨6, cw3, by decide +kernel, by decide +kernel, by decide +kernel, by decide +kernel⟩
theorem all_dec {n : Nat} {p : Nat → Prop} [∀ j, Decidable (p j)] (h : ((List.range n).all fun j => decide (p j)) = true) : ∀ j, j < n → p j := fun j hj => of_decide_eq_true (List.all_eq_true.mp h j (List.mem_range.mpr hj))
theorem all_lt2 {w : List Nat} (h : (w.all fun t => decide (t < 2)) = true) : ∀ t ∈ w, t < 2 := fun t ht => of_decide_eq_true (List.all_eq_true.mp h t ht)
theorem band {a b : Bool} (h : (a && b) = true) : a = true ∧ b = true := Bool.and_eq_true_iff.mp h
theorem inv_of {n : Nat} {x y : List Nat} (hx : IsP n x) (hy : IsP n y) (h : mul x y = still n) : inv x = y := by
  have e : (⟨y, hy⟩ : Pm n) = Pm.iv ⟨x, hx⟩ := Pm.eq_iv (Subtype.ext h)
  exact (congrArg Subtype.val e).symm
theorem Rc.run {M : Mc} {rs : List Nat} (h : Rc M rs) : ∀ (w : List Nat) (s : Nat), s ∈ rs → (∀ i ∈ w, i < M.k) → M.run s w ∈ rs
  | [], _, hs, _ => hs
  | i :: w, s, hs, hw => Rc.run h w (M.stp s i) (h.cl s hs i (hw i List.mem_cons_self)) fun j hj => hw j (List.mem_cons_of_mem _ hj)
theorem perm_of_sub {l m : List Nat} (hl : l.Nodup) (hm : m.Nodup) (hs : ∀ x ∈ l, x ∈ m) (hlen : m.length ≤ l.length) : l.Perm m :=
  (List.perm_ext_iff_of_nodup hl hm).mpr fun x => ⟨hs x, all_met hl hs hlen x⟩
theorem plain_law : PlainLaw := by
  intro rws n nu rows N bn hK hRen hbn rs hR
  obtain ⟨hn56, hk2, hk3, hrl⟩ := hK.n6
  obtain ⟨pr, hpr, hprn, ext, hperm, _⟩ := id hK
  obtain ⟨n', L, g1, g2, g3, g4⟩ := base_good pr hpr
  obtain ⟨l1, l2⟩ := band g1
  have hpr2 : pr.length = 2 := beq_iff_eq.mp l1
  have hnn : n' = n := by
    obtain ⟨r, hr⟩ : ∃ r, r ∈ pr := List.exists_mem_of_length_pos (by omega)
    have := beq_iff_eq.mp (band (List.all_eq_true.mp l2 r hr)).1
    rw [← this, hprn r hr]
  subst hnn
  have gR : ∀ g ∈ pr, (∀ j, j < n' → g.getD j 0 < n') ∧ ∀ i, i < n' → ∀ j, j < n' → g.getD i 0 = g.getD j 0 → i = j := fun g hg => by
    obtain ⟨a1, a2⟩ := band (band (List.all_eq_true.mp l2 g hg)).2
    exact ⟨all_dec a1, fun i hi => all_dec (List.all_eq_true.mp a2 i (List.mem_range.mpr hi))⟩
  have prAt : ∀ t, t < 2 → pr.getD t [] ∈ pr := fun t ht => getD_at (by omega)
  have fLt : ∀ (w : List Nat), (∀ t ∈ w, t < 2) → ∀ j, j < n' → Fw2 pr w j < n' := by
    intro w
    induction w with
    | nil => exact fun _ j hj => hj
    | cons t w ih => exact fun hw j hj => ih (fun x hx => hw x (List.mem_cons_of_mem _ hx)) _ ((gR _ (prAt t (hw t List.mem_cons_self))).1 j hj)
  have fInj : ∀ (w : List Nat), (∀ t ∈ w, t < 2) → ∀ i, i < n' → ∀ j, j < n' → Fw2 pr w i = Fw2 pr w j → i = j := by
    intro w
    induction w with
    | nil => exact fun _ i _ j _ e => e
    | cons t w ih =>
      intro hw i hi j hj e
      have hg := gR _ (prAt t (hw t List.mem_cons_self))
      exact hg.2 i hi j hj (ih (fun x hx => hw x (List.mem_cons_of_mem _ hx)) _ (hg.1 i hi) _ (hg.1 j hj) e)
  -- names
  generalize hgs : ((List.range n').map fun a => rws.map fun r => r.getD a 0) = gs at hRen
  have hgl : gs.length = n' := by rw [← hgs, List.length_map, List.length_range]
  have hlo := hRen.lo
  have hnul : nu.length = N := by rw [hRen.perm.length_eq, List.length_range]
  have hnud : nu.Nodup := hRen.perm.nodup_iff.mpr List.nodup_range
  have nuI : ∀ i, i < n' → ∀ j, j < n' → nu.getD i 0 = nu.getD j 0 → i = j := fun i hi j hj e => by
    have e1 := some_getD (l := nu) (i := i) (by omega)
    rw [e] at e1
    exact nodup_get_inj hnud e1 (some_getD (by omega))
  obtain ⟨M, hM⟩ : ∃ M : Mc, M = ⟨rws.length, rows, nu.getD bn 0⟩ := ⟨_, rfl⟩
  rw [← hM] at hR ⊢
  have ek : M.k = rws.length := by rw [hM]
  have stp : ∀ j, j < n' → ∀ i, i < M.k → M.stp (nu.getD j 0) i = nu.getD ((rws.getD i []).getD j 0) 0 ∧ (rws.getD i []).getD j 0 < n' := fun j hj i hi => by
    have h1 := hRen.at_ j (by omega)
    have e2 : gs.getD j [] = rws.map fun r => r.getD j 0 := by
      rw [← hgs, List.getD_eq_getElem?_getD, List.getElem?_map, range_get hj]
      rfl
    rw [ek] at hi
    have e3 : rws[i]? = some (rws.getD i []) := by rw [List.getD_eq_getElem?_getD, List.getElem?_eq_getElem hi]; rfl
    refine ⟨?_, hK.ok hj _ (List.mem_map.mpr ⟨_, List.mem_of_getElem? e3, rfl⟩)⟩
    unfold Mc.stp
    rw [hM]
    show (rows.getD (nu.getD j 0) []).getD i 0 = _
    rw [List.getD_eq_getElem?_getD (l := rows), h1, e2, List.map_map]
    show ((rws.map _).getD i 0) = _
    rw [List.getD_eq_getElem?_getD, List.getElem?_map, e3]
    rfl
  have runIn : ∀ (w : List Nat), (∀ i ∈ w, i < M.k) → ∀ j, j < n' → ∃ j', j' < n' ∧ M.run (nu.getD j 0) w = nu.getD j' 0 := by
    intro w
    induction w with
    | nil => exact fun _ j hj => ⟨j, hj, rfl⟩
    | cons i w ih =>
      intro hw j hj
      obtain ⟨h1, h2⟩ := stp j hj i (hw i List.mem_cons_self)
      obtain ⟨j', h3, h4⟩ := ih (fun x hx => hw x (List.mem_cons_of_mem _ hx)) _ h2
      refine ⟨j', h3, ?_⟩
      show M.run (M.stp (nu.getD j 0) i) w = _
      rw [h1, h4]
  have rsIn : ∀ s ∈ rs, ∃ j, j < n' ∧ s = nu.getD j 0 := fun s hs => by
    obtain ⟨w, hw, e⟩ := hR.rc.wd s hs
    have e0 : M.s0 = nu.getD bn 0 := by rw [hM]
    rw [e0] at e
    obtain ⟨j, hj, e'⟩ := runIn w hw bn hbn
    exact ⟨j, hj, by rw [← e, e']⟩
  have hlen : rs.length ≤ n' := by
    have := len_sub (m := (List.range n').map fun j => nu.getD j 0) hR.rc.nd fun s hs => by
      obtain ⟨j, hj, rfl⟩ := rsIn s hs
      exact List.mem_map.mpr ⟨j, List.mem_range.mpr hj, rfl⟩
    rwa [List.length_map, List.length_range] at this
  refine ⟨by omega, ?_⟩
  -- the letters
  have memR : ∀ t, t < 2 → pr.getD t [] ∈ rws := fun t ht => hperm.mem_iff.mpr (List.mem_append_left _ (prAt t ht))
  obtain ⟨lt, hlt⟩ : ∃ lt : Nat → Nat, ∀ t, t < 2 → lt t < M.k ∧ rws.getD (lt t) [] = pr.getD t [] := by
    refine ⟨fun t => rws.findIdx fun r => r == pr.getD t [], fun t ht => ?_⟩
    have h1 : rws.findIdx (fun r => r == pr.getD t []) < rws.length := List.findIdx_lt_length_of_exists ⟨_, memR t ht, beq_self_eq_true _⟩
    refine ⟨by rw [ek]; exact h1, ?_⟩
    rw [List.getD_eq_getElem?_getD, List.getElem?_eq_getElem h1]
    exact beq_iff_eq.mp (List.findIdx_getElem (w := h1))
  have wLt : ∀ w : List Nat, (∀ t ∈ w, t < 2) → ∀ i ∈ w.map lt, i < M.k := fun w hw i hi => by
    obtain ⟨t, ht, rfl⟩ := List.mem_map.mp hi
    exact (hlt t (hw t ht)).1
  have runF : ∀ (w : List Nat), (∀ t ∈ w, t < 2) → ∀ j, j < n' → M.run (nu.getD j 0) (w.map lt) = nu.getD (Fw2 pr w j) 0 := by
    intro w
    induction w with
    | nil => exact fun _ j _ => rfl
    | cons t w ih =>
      intro hw j hj
      obtain ⟨h1, h2⟩ := hlt t (hw t List.mem_cons_self)
      obtain ⟨h3, h4⟩ := stp j hj (lt t) h1
      rw [h2] at h3 h4
      show M.run (M.stp (nu.getD j 0) (lt t)) (w.map lt) = _
      rw [h3, ih (fun x hx => hw x (List.mem_cons_of_mem _ hx)) _ h4]
      rfl
  have inRs : ∀ j, j < n' → nu.getD j 0 ∈ rs := fun j hj => by
    have h1 := List.all_eq_true.mp (List.all_eq_true.mp g4 bn (List.mem_range.mpr hbn)) j (List.mem_range.mpr hj)
    obtain ⟨w, _, h2⟩ := List.any_eq_true.mp h1
    obtain ⟨h3, h4⟩ := band h2
    have h3 := all_lt2 h3
    have h4 : Fw2 pr w bn = j := of_decide_eq_true h4
    have e0 : M.s0 = nu.getD bn 0 := by rw [hM]
    have h5 := hR.rc.run (w.map lt) M.s0 hR.rc.st (wLt w h3)
    rw [e0, runF w h3 bn hbn, h4] at h5
    exact h5
  have rowP : ∀ w : List Nat, (∀ t ∈ w, t < 2) → (rowOf M rs (w.map lt)).Perm rs := fun w hw => by
    refine perm_of_sub (map_nodup hR.rc.nd fun s hs s' hs' e => ?_) hR.rc.nd (fun x hx => ?_) (by unfold rowOf; rw [List.length_map]; exact Nat.le_refl _)
    · obtain ⟨j, hj, rfl⟩ := rsIn s hs
      obtain ⟨j', hj', rfl⟩ := rsIn s' hs'
      rw [runF w hw j hj, runF w hw j' hj'] at e
      rw [fInj w hw j hj j' hj' (nuI _ (fLt w hw j hj) _ (fLt w hw j' hj') e)]
    · obtain ⟨s, hs, rfl⟩ := List.mem_map.mp hx
      exact hR.rc.run _ s hs (wLt w hw)
  have mkEq : ∀ u v : List Nat, (∀ t ∈ u, t < 2) → (∀ t ∈ v, t < 2) → (∀ j, j < n' → Fw2 pr u j = Fw2 pr v j) → mk M rs (u.map lt) = mk M rs (v.map lt) := fun u v hu hv h => by
    have e : rowOf M rs (u.map lt) = rowOf M rs (v.map lt) := List.map_congr_left fun s hs => by
      obtain ⟨j, hj, rfl⟩ := rsIn s hs
      rw [runF u hu j hj, runF v hv j hj, h j hj]
    unfold mk
    rw [e]
  have mkP : ∀ u : List Nat, (∀ t ∈ u, t < 2) → IsP rs.length (mk M rs (u.map lt)) := fun u hu => mk_isP hR.rc.nd (rowP u hu)
  have mkMul : ∀ u v : List Nat, (∀ t ∈ u, t < 2) → mul (mk M rs (u.map lt)) (mk M rs (v.map lt)) = mk M rs ((u ++ v).map lt) := fun u v hu => by
    rw [List.map_append]
    exact mk_app (rowP u hu)
  have app2 : ∀ {u v : List Nat}, (∀ t ∈ u, t < 2) → (∀ t ∈ v, t < 2) → ∀ t ∈ u ++ v, t < 2 := fun hu hv t ht => (List.mem_append.mp ht).elim (hu t) (hv t)
  have good : ∀ e ∈ L, (∀ t ∈ e.1, t < 2) ∧ (∀ t ∈ e.2.1, t < 2) ∧ (∀ j, j < n' → Fw2 pr (e.1 ++ e.2.1) j = j) ∧ (e.2.2.1 < L.length ∧ e.2.2.2 < L.length) ∧
      ∀ j, j < n' → Fw2 pr e.1 j = Fw2 pr ((L.getD e.2.2.1 ([], [], 0, 0)).1 ++ (L.getD e.2.2.2 ([], [], 0, 0)).1 ++ ((L.getD e.2.2.1 ([], [], 0, 0)).2.1 ++ (L.getD e.2.2.2 ([], [], 0, 0)).2.1)) j := fun e he => by
    obtain ⟨a1, a2⟩ := band (List.all_eq_true.mp g2 e he)
    obtain ⟨a3, a4⟩ := band a1
    obtain ⟨a5, a6⟩ := band a2
    obtain ⟨a7, a8⟩ := band a6
    exact ⟨all_lt2 a3, all_lt2 a4, all_dec a5, of_decide_eq_true a7, all_dec a8⟩
  have atL : ∀ i, i < L.length → L.getD i ([], [], 0, 0) ∈ L := fun i hi => by
    rw [List.getD_eq_getElem?_getD, List.getElem?_eq_getElem hi]
    exact List.getElem_mem hi
  have invE : ∀ e ∈ L, inv (mk M rs (e.1.map lt)) = mk M rs (e.2.1.map lt) := fun e he => by
    obtain ⟨h1, h2, h3, _⟩ := good e he
    refine inv_of (mkP _ h1) (mkP _ h2) ?_
    rw [mkMul _ _ h1, mkEq _ [] (app2 h1 h2) (fun t ht => (List.not_mem_nil ht).elim) (fun j hj => h3 j hj)]
    exact mk_nil hR.rc.nd
  have hne : rs ≠ [] := fun e => by
    have := hR.rc.st
    rw [e] at this
    exact List.not_mem_nil this
  obtain ⟨m1, m2⟩ := band g3
  have hL0 : 0 < L.length := of_decide_eq_true m1
  obtain ⟨j0, hj0, m3⟩ := List.any_eq_true.mp m2
  have hj0 := List.mem_range.mp hj0
  have m3 := of_decide_eq_true m3
  refine ⟨rs, L.map fun e => mk M rs (e.1.map lt), hne, List.Sublist.refl _, fun a ha => ?_, fun a ha => ?_, _, List.mem_map.mpr ⟨_, atL 0 hL0, rfl⟩, fun e => ?_⟩
  · obtain ⟨e, he, rfl⟩ := List.mem_map.mp ha
    obtain ⟨h1, h2, h3, ⟨hb, hc⟩, h5⟩ := good e he
    have heb := atL _ hb
    have hec := atL _ hc
    refine ⟨_, List.mem_map.mpr ⟨_, heb, rfl⟩, _, List.mem_map.mpr ⟨_, hec, rfl⟩, ?_⟩
    obtain ⟨b1, b2, _⟩ := good _ heb
    obtain ⟨c1, c2, _⟩ := good _ hec
    unfold exch
    rw [invE _ heb, invE _ hec, mkMul _ _ b1, mkMul _ _ b2, mkMul _ _ (app2 b1 c1)]
    exact mkEq _ _ h1 (app2 (app2 b1 c1) (app2 b2 c2)) h5
  · obtain ⟨e, he, rfl⟩ := List.mem_map.mp ha
    obtain ⟨h1, _⟩ := good e he
    exact ⟨e.1.map lt, wLt _ h1, rowP _ h1, rfl⟩
  · obtain ⟨h1, _⟩ := good _ (atL 0 hL0)
    have hs := inRs j0 hj0
    have hi := idx_get hs
    have hil : rs.idxOf (nu.getD j0 0) < rs.length := List.idxOf_lt_length_of_mem hs
    have h2 := mk_get (M := M) (w := (L.getD 0 ([], [], 0, 0)).1.map lt) hi
    rw [e, show (still rs.length)[rs.idxOf (nu.getD j0 0)]? = some (rs.idxOf (nu.getD j0 0)) from range_get hil] at h2
    have h3 := Option.some.inj h2
    have h4 := hR.rc.run ((L.getD 0 ([], [], 0, 0)).1.map lt) _ hs (wLt _ h1)
    have h5 := idx_get h4
    rw [← h3, hi, runF _ h1 j0 hj0] at h5
    exact m3 (nuI _ (fLt _ h1 j0 hj0) _ hj0 (Option.some.inj h5).symm)
end Kn
/-! N4 -/
set_option maxHeartbeats 2000000
namespace Hx
open PySem PySem.Spec PyProof.Rows L2 Kn
/-! ### parts of the heap, laid out -/
theorem frL_eq {α : Type} : ∀ (l : List Addr) (k : List Addr → α), frL l k = k l
  | [], _ => rfl
  | a :: r, k => by
    show (HandSHeadRun.frNat a fun a => frL r fun r => k (a :: r)) = _
    rw [HandSHeadRun.frNat_eq, frL_eq r]
def kOf (g : Addr → Option Obj) (l : List Addr) : Fr := frK g l id
theorem frK_eq {α : Type} (g : Addr → Option Obj) : ∀ (l : List Addr) (k : Fr → α), frK g l k = k (kOf g l)
  | [], k => rfl
  | a :: r, k => by
    unfold kOf
    show (match g a with
      | some ⟨c, d, dt, sl⟩ => frK g r fun K => k ((a, ⟨c, d, dt, sl⟩) :: K)
      | none => frK g r k) = k (match g a with
      | some ⟨c, d, dt, sl⟩ => frK g r fun K => id ((a, ⟨c, d, dt, sl⟩) :: K)
      | none => frK g r id)
    cases e : g a with
    | none => exact frK_eq g r k
    | some o =>
      obtain ⟨c, d, dt, sl⟩ := o
      show (frK g r fun K => k ((a, ⟨c, d, dt, sl⟩) :: K)) = k (frK g r fun K => id ((a, ⟨c, d, dt, sl⟩) :: K))
      rw [frK_eq g r, frK_eq g r]
      rfl
theorem kOf_mem (g : Addr → Option Obj) : ∀ (l : List Addr) (a : Addr) (o : Obj), (a, o) ∈ kOf g l → g a = some o
  | [], _, _, h => (List.not_mem_nil h).elim
  | b :: r, a, o, h => by
    have e1 : kOf g (b :: r) = (match g b with
      | some ⟨c, d, dt, sl⟩ => frK g r fun K => id ((b, ⟨c, d, dt, sl⟩) :: K)
      | none => frK g r id) := rfl
    rw [e1] at h
    cases e : g b with
    | none =>
      rw [e] at h
      exact kOf_mem g r a o h
    | some o' =>
      obtain ⟨c, d, dt, sl⟩ := o'
      rw [e] at h
      have h : (a, o) ∈ (frK g r fun K => id ((b, ⟨c, d, dt, sl⟩) :: K)) := h
      rw [frK_eq] at h
      rcases List.mem_cons.mp h with z | z
      · cases z
        exact e
      · exact kOf_mem g r a o z
theorem in_of_mem {g : Addr → Option Obj} : ∀ (K : Fr), (∀ a o, (a, o) ∈ K → g a = some o) → ∀ a o, K.lookup a = some o → g a = some o
  | [], _, _, _, e => by cases e
  | (b, ob) :: r, h, a, o, e => by
    rw [List.lookup_cons] at e
    cases q : (a == b) with
    | true =>
      rw [q] at e
      cases e
      rw [beq_iff_eq.mp q]
      exact h _ _ List.mem_cons_self
    | false =>
      rw [q] at e
      exact in_of_mem r (fun a o z => h a o (List.mem_cons_of_mem _ z)) a o e
/-! ### which addresses -/
def asOf (g : Addr → Option Obj) (fns cls : List Str) : List Addr := withAs g fns cls id
theorem withAs_eq {α : Type} (g : Addr → Option Obj) (fns cls : List Str) (k : List Addr → α) : withAs g fns cls k = k (asOf g fns cls) := by
  unfold asOf withAs
  simp only [frK_eq, frL_eq, id]
/-! ### defs -/
theorem DX.fun_ {K : Fr} {d : DX} (e : fW K d = d.val) (c : d.ok K = true) : ∃ (oc : Value) (od : Option Addr) (dV kV doc pm : Value) (an : Option Addr) (cdv ct : Value) (osl : Array (Option Value)) (cl : List (Str × Addr)), cl.map (·.1) = d.clo ∧
    K.lookup (d.at_ K) = some ⟨oc, od, .func (PySem.W.fnX d.name d.qual d.params d.body d.scope cl dV kV doc pm an cdv ct), osl⟩ ∧ PySem.W.codeIn K cdv d.qual = true ∧ DflV K dV (d.dfl.map (He.Dv.v K)) ∧ KwdV K kV (d.kwd.map fun q => (q.1, q.2.v K)) ∧ PySem.W.keepIn K (.ref (d.at_ K)) = true := by
  obtain ⟨kp, c2⟩ := He.ba c
  unfold fW at e
  cases q : K.lookup (d.at_ K) with
  | none =>
    rw [q] at c2
    cases c2
  | some o =>
    obtain ⟨oc, od, dt, osl⟩ := o
    rw [q] at c2 e
    cases dt with
    | func fd =>
      obtain ⟨n1, n2, n3, n4, n5, n6, n7, n8, n9, n10, n11, n12, n13, n14, n15⟩ := fd
      have e2 : (some (n1, n2, n3, n4, n5, n6, n7.map (·.1), n15) : FW) = some (d.name, d.qual, d.params, .stmts d.body, d.scope, mainGlobals, d.clo, builtinsNs) := e
      simp only [Option.some.injEq, Prod.mk.injEq] at e2
      obtain ⟨h1, h2, h3, h4, h5, h6, h7, h8⟩ := e2
      subst h1 h2 h3 h4 h5 h6 h8
      have c3 : (PySem.W.codeIn K n13 d.qual && (He.dflB K n8 (d.dfl.map (He.Dv.v K)) && He.kwdB K n9 (d.kwd.map fun q => (q.1, q.2.v K)))) = true := c2
      obtain ⟨k1, k2⟩ := He.ba c3
      obtain ⟨k3, k4⟩ := He.ba k2
      exact ⟨oc, od, n8, n9, n10, n11, n12, n13, n14, osl, n7, h7, rfl, k1, He.dflB_ok k3, He.kwdB_ok k4, kp⟩
    | _ => cases c2
theorem DX.funD {K : Fr} {d : DX} (e : fW K d = d.val) (c : d.ok K = true) (hc : d.clo = []) : ∃ fd, FunD K d.name d.qual d.params d.body d.scope (d.dfl.map (He.Dv.v K)) (d.kwd.map fun q => (q.1, q.2.v K)) (d.at_ K) fd := by
  obtain ⟨oc, od, dV, kV, doc, pm, an, cdv, ct, osl, cl, hcl, lk, k1, k2, k3, kp⟩ := DX.fun_ e c
  rw [hc] at hcl
  have : cl = [] := List.map_eq_nil_iff.mp hcl
  subst this
  exact ⟨_, ⟨oc, od, dV, kV, doc, pm, an, cdv, ct, osl, rfl, lk, k1, k2, k3⟩, kp⟩
/-! ### super().__init__ of a plain class -/
theorem super_ok {P : Program} {K : Fr} {mg : Str → Option Value} {d : DX} {C fB : Addr} (e : fW K d = d.val) (c : d.ok K = true) (hc : d.clo = [("__class__" : Str)]) (b : superB K P.main.file (d.at_ K) C fB = true) (hs : (P.main.scope.names.lookup ("super" : Str)).isSome = false) (bl : mg "super" = none) :
    ∃ fd, SupD P K mg d.name d.qual d.params d.body d.scope C fB (d.at_ K) fd ∧ ∃ oc od osl dV kV doc pm an cdv ct cl, fd = PySem.W.fnX d.name d.qual d.params d.body d.scope cl dV kV doc pm an cdv ct ∧ DflV K dV (d.dfl.map (He.Dv.v K)) ∧ K.lookup (d.at_ K) = some ⟨oc, od, .func fd, osl⟩ := by
  obtain ⟨oc, od, dV, kV, doc, pm, an, cdv, ct, osl, cl, hcl, lk, k1, k2, k3, kp⟩ := DX.fun_ e c
  unfold superB at b
  obtain ⟨b1, b2⟩ := He.ba b
  obtain ⟨b3, b4⟩ := He.ba b2
  obtain ⟨b5, b6⟩ := He.ba b4
  obtain ⟨b7, b8⟩ := He.ba b6
  obtain ⟨b9, b10⟩ := He.ba b8
  rw [lk] at b1
  obtain ⟨a1, a2⟩ := He.ba b1
  cases cdv with
  | ref cda =>
    have a11 : (match K.lookup cda with
      | some ⟨_, _, .fields vs, _⟩ => (match vs[2]? with
        | some (Value.str x _) => (P.main.file == x)
        | _ => false)
      | _ => false) = true := a1
    clear a1
    cases q : K.lookup cda with
    | none => rw [q] at a11; cases a11
    | some o =>
      obtain ⟨ccl, cdd, dt, ccs⟩ := o
      rw [q] at a11
      cases dt with
      | fields vs =>
        have a12 : (match vs[2]? with
          | some (Value.str x _) => (P.main.file == x)
          | _ => false) = true := a11
        clear a11
        cases q2 : vs[2]? with
        | none => rw [q2] at a12; cases a12
        | some v =>
          rw [q2] at a12
          cases v with
          | str file tf =>
            cases cl with
            | nil => cases a2
            | cons y ys =>
              obtain ⟨x, cc⟩ := y
              cases ys with
              | cons z zs => cases a2
              | nil =>
                obtain ⟨a3, a4⟩ := He.ba (show (decide (x = Str.ofString "__class__") && (match K.lookup cc with
                  | some ⟨_, _, .cell (some (.ref c)), _⟩ => decide (c = C)
                  | _ => false)) = true from a2)
                have ex : x = Str.ofString "__class__" := of_decide_eq_true a3
                subst ex
                cases q3 : K.lookup cc with
                | none => rw [q3] at a4; cases a4
                | some o =>
                  obtain ⟨l1, l2, dt, l4⟩ := o
                  rw [q3] at a4
                  cases dt with
                  | cell v =>
                    cases v with
                    | none => cases a4
                    | some v =>
                      cases v with
                      | ref c =>
                        have ec : c = C := of_decide_eq_true a4
                        subst ec
                        cases q4 : PySem.W.clsIn K c with
                        | none => rw [q4] at b3; cases b3
                        | some cd =>
                          rw [q4] at b3
                          exact ⟨_, ⟨⟨oc, dV, kV, doc, pm, ct, ccl, l1, od, an, cdd, l2, osl, ccs, l4, cda, cc, vs, cd, file, tf, rfl, lk, k1, q, q2, a12, q3, q4, of_decide_eq_true b3⟩, of_decide_eq_true b5, of_decide_eq_true b7, of_decide_eq_true b9, b10, hs, bl⟩, oc, od, osl, dV, kV, doc, pm, an, _, ct, _, rfl, k2, lk⟩
                      | _ => cases a4
                  | _ => cases a4
          | _ => cases a12
      | _ => cases a11
  | _ => cases a1
/-! ### the table -/
theorem arr0 {α : Type} {a : Array α} (h : a.size = 0) : a = #[] := Array.eq_empty_of_size_eq_zero h
theorem tab_ok {K0 : Fr} {h : Heap} {c p : Addr} (X : K0.In h) (b : tabB K0 c p = true) : PySem.W.CodeHd h c p ∧ h.get? p = some { cls := .none, data := .fields #[] } := by
  unfold tabB at b
  obtain ⟨b1, b2⟩ := He.ba b
  obtain ⟨b3, b4⟩ := He.ba b2
  refine ⟨?_, ?_⟩
  · cases q : K0.lookup c with
    | none => rw [q] at b1; cases b1
    | some o =>
      obtain ⟨t, d, dt, sl⟩ := o
      rw [q] at b1
      cases dt with
      | fields vs =>
        obtain ⟨a1, b1⟩ := He.ba b1
        obtain ⟨a2, b1⟩ := He.ba b1
        obtain ⟨a3, b1⟩ := He.ba b1
        obtain ⟨a4, b1⟩ := He.ba b1
        obtain ⟨a5, b1⟩ := He.ba b1
        obtain ⟨a6, a7⟩ := He.ba b1
        cases t with
        | type x =>
          have ex : x = "code" := of_decide_eq_true a1
          subst ex
          cases e2 : vs[11]? with
          | none => rw [e2] at a2; cases a2
          | some v2 =>
            rw [e2] at a2
            cases v2 with
            | ref P =>
              have eP : P = p := of_decide_eq_true a2
              subst eP
              cases e3 : vs.getD 11 .none with
              | ref P3 =>
                rw [e3] at a3
                have eP3 : P3 = P := of_decide_eq_true a3
                subst eP3
                cases e4 : vs.getD 18 .none with
                | str f tf =>
                  cases e5 : vs.getD 7 .none with
                  | int fl tg =>
                    cases e6 : vs.getD 9 .none with
                    | bool inF =>
                      cases e7 : vs.getD 10 .none with
                      | int tx tt => exact ⟨_, vs, f, tf, fl, tg, inF, tx, tt, X _ _ q, rfl, rfl, e2, e3, e4, e5, e6, e7, of_decide_eq_true b3⟩
                      | _ => rw [e7] at a7; cases a7
                    | _ => rw [e6] at a6; cases a6
                  | _ => rw [e5] at a5; cases a5
                | _ => rw [e4] at a4; cases a4
              | _ => rw [e3] at a3; cases a3
            | _ => cases a2
        | _ => cases a1
      | _ => cases b1
  · cases q : K0.lookup p with
    | none => rw [q] at b4; cases b4
    | some o =>
      obtain ⟨t, d, dt, sl⟩ := o
      rw [q] at b4
      cases t with
      | none =>
        cases d with
        | none =>
          cases dt with
          | fields vs =>
            obtain ⟨a1, a2⟩ := He.ba (show (decide (vs.size = 0) && decide (sl.size = 0)) = true from b4)
            rw [X _ _ q, arr0 (of_decide_eq_true a1), arr0 (of_decide_eq_true a2)]
          | _ => cases b4
        | some d => cases dt <;> cases b4
      | _ => cases d <;> cases dt <;> cases b4
/-! ### the Hook -/
theorem drop_in {g : Addr → Option Obj} {p : Addr} {K : Fr} (h : ∀ a o, (a, o) ∈ K → g a = some o) : (∀ a o, (a, o) ∈ dropP p K → g a = some o) ∧ (dropP p K).lookup p = none := by
  refine ⟨fun a o z => h a o (List.mem_filter.mp z).1, ?_⟩
  cases e : (dropP p K).lookup p with
  | none => rfl
  | some o =>
    have key : ∀ (l : Fr), l.lookup p = some o → (p, o) ∈ l := by
      intro l
      induction l with
      | nil => intro z; cases z
      | cons y r ih =>
        intro z
        obtain ⟨b, ob⟩ := y
        rw [List.lookup_cons] at z
        cases q : (p == b) with
        | true =>
          rw [q] at z
          cases z
          rw [beq_iff_eq.mp q]
          exact List.mem_cons_self
        | false =>
          rw [q] at z
          exact List.mem_cons_of_mem _ (ih z)
    have z := (List.mem_filter.mp (key _ e)).2
    rw [show ((p, o) : Addr × Obj).1 = p from rfl, beq_self_eq_true] at z
    cases z
theorem frF_eq {α : Type} : ∀ (l : Fr) (k : Fr → α), frF l k = k l
  | [], _ => rfl
  | (a, o) :: r, k => by
    show (frF r fun r => k ((a, o) :: r)) = _
    rw [frF_eq r]
structure Told (W : Want) (h : Heap) (K : Fr) (c p : Addr) : Prop where
  in_ : K.In h
  no : K.lookup p = none
  hd : PySem.W.CodeHd h c p
  tb : h.get? p = some { cls := .none, data := .fields #[] }
  co : cOf K = c
  fa : ∀ f ∈ W.fa, f.ok K = true
  ex : ∀ f ∈ W.ex, f K = true
  ds : ∀ d ∈ W.ds, d.ok K = true ∧ fW K d = d.val
theorem map_eq {α β : Type} {f g : α → β} : ∀ {l : List α}, l.map f = l.map g → ∀ x ∈ l, f x = g x
  | [], _, x, hx => (List.not_mem_nil hx).elim
  | y :: l, e, x, hx => by
    rw [List.map_cons, List.map_cons] at e
    injection e with e1 e2
    rcases List.mem_cons.mp hx with rfl | z
    · exact e1
    · exact map_eq e2 x z
/-- the part with the table -/
def k0Of (W : Want) (g : Addr → Option Obj) : Fr := kOf g (asOf g W.fns W.cls)
theorem obsX_is (W : Want) (g : Addr → Option Obj) : obsX W g = obsK W (k0Of W g) (dropP (pOf (k0Of W g)) (k0Of W g)) (cOf (k0Of W g)) (pOf (k0Of W g)) := by
  unfold obsX
  rw [withAs_eq, frK_eq, HandSHeadRun.frNat_eq, HandSHeadRun.frNat_eq, frF_eq]
  rfl
theorem told_of {W : Want} {h : Heap} (e : obsX W h.get? = valX W) : Told W h (dropP (pOf (k0Of W h.get?)) (k0Of W h.get?)) (cOf (k0Of W h.get?)) (pOf (k0Of W h.get?)) := by
  rw [obsX_is] at e
  have h3 := kOf_mem h.get? (asOf h.get? W.fns W.cls)
  have h3 : ∀ a o, (a, o) ∈ k0Of W h.get? → h.get? a = some o := h3
  generalize k0Of W h.get? = K0 at e h3
  have e1 : ((W.fa.all fun f => f.ok (dropP (pOf K0) K0)) && ((W.ex.all fun f => f (dropP (pOf K0) K0)) && ((W.ds.all fun d => d.ok (dropP (pOf K0) K0)) && (tabB K0 (cOf K0) (pOf K0) && decide (cOf (dropP (pOf K0) K0) = cOf K0))))) = true := congrArg (fun z : AlX => z.1) e
  have e2 : W.ds.map (fun d => fW (dropP (pOf K0) K0) d) = W.ds.map DX.val := congrArg (fun z : AlX => z.2) e
  obtain ⟨a1, e1⟩ := He.ba e1
  obtain ⟨a2, e1⟩ := He.ba e1
  obtain ⟨a3, e1⟩ := He.ba e1
  obtain ⟨a4, a5⟩ := He.ba e1
  obtain ⟨d1, d2⟩ := drop_in (p := pOf K0) h3
  obtain ⟨t1, t2⟩ := tab_ok (h := h) (fun a o z => in_of_mem K0 h3 a o z) a4
  exact ⟨fun a o z => in_of_mem _ d1 a o z, d2, t1, t2, of_decide_eq_true a5, fun f hf => List.all_eq_true.mp a1 f hf, fun f hf => List.all_eq_true.mp a2 f hf, fun d hd => ⟨List.all_eq_true.mp a3 d hd, map_eq e2 d hd⟩⟩
/-- two wants over the same names -/
def and2 (W V : Want) : Want := ⟨W.fns, W.cls, W.fa ++ V.fa, W.ex ++ V.ex, W.ds ++ V.ds⟩
theorem Told.and {W V : Want} {h : Heap} {K : Fr} {c p : Addr} (a : Told W h K c p) (b : Told V h K c p) : Told (and2 W V) h K c p :=
  ⟨a.in_, a.no, a.hd, a.tb, a.co, fun f hf => (List.mem_append.mp hf).elim (a.fa f) (b.fa f), fun f hf => (List.mem_append.mp hf).elim (a.ex f) (b.ex f), fun d hd => (List.mem_append.mp hd).elim (a.ds d) (b.ds d)⟩
/-- the Hook of two wants over the same names -/
def hook (W V : Want) (e1 : V.fns = W.fns) (e2 : V.cls = W.cls) : PySem.W.Hook where
  α := AlX × AlX
  obs := fun s => (obsX W s.heap.get?, obsX V s.heap.get?)
  val := fun _ => (valX W, valX V)
  says := fun _ h => ∃ K c p, Told (and2 W V) h K c p
  of := fun _ s e => by
    have a := told_of (h := s.heap) (congrArg Prod.fst e)
    have b := told_of (h := s.heap) (congrArg Prod.snd e)
    have ek : k0Of V s.heap.get? = k0Of W s.heap.get? := by unfold k0Of; rw [e1, e2]
    rw [ek] at b
    exact ⟨_, _, _, a.and b⟩
  keeps := fun _ h h' ⟨K, c, p, t⟩ k => by
    obtain ⟨o, vs, f, tf, fl, tg, inF, tx, tt, e, r⟩ := t.hd
    exact ⟨K, c, p, PySem.W.Frag.In.keeps t.in_ k, t.no, ⟨o, vs, f, tf, fl, tg, inF, tx, tt, k _ _ e, r⟩, k _ _ t.tb, t.co, t.fa, t.ex, t.ds⟩
theorem obsX_eq {W : Want} {g : Addr → Option Obj} {s : Shared} (h : ∀ a, g a = s.heap.get? a) : obsX W g = obsX W s.heap.get? := by
  have e : g = s.heap.get? := funext h
  rw [e]
theorem map3 {α β γ δ : Type} {o : Option α} {f : α → β} {g : α → γ} {k : α → δ} {a : β} {b : γ} {c : δ} (h1 : o.map f = some a) (h2 : o.map g = some b) (h3 : o.map k = some c) : o.map (fun s => (f s, g s, k s)) = some (a, b, c) := by
  cases o with
  | none => cases h1
  | some x =>
    rw [Option.map_some] at h1 h2 h3 ⊢
    rw [Option.some.inj h1, Option.some.inj h2, Option.some.inj h3]
theorem map2 {α β γ : Type} {o : Option α} {f : α → β} {g : α → γ} {a : β} {b : γ} (h1 : o.map f = some a) (h2 : o.map g = some b) : o.map (fun s => (f s, g s)) = some (a, b) := by
  cases o with
  | none => cases h1
  | some x =>
    rw [Option.map_some] at h1 h2 ⊢
    rw [Option.some.inj h1, Option.some.inj h2]
end Hx
/-! N5 -/
set_option maxHeartbeats 2000000
namespace Hx
open PySem PySem.Spec PyProof.Rows L2 Kn
theorem prop_ok {K : Fr} {C f : Str} (h : propB C f K = true) : PropOf K (He.ga K C) f (pAt K C f) (gAt K C f) := by
  unfold propB at h
  obtain ⟨h1, h⟩ := He.ba h
  obtain ⟨h2, h⟩ := He.ba h
  obtain ⟨h3, h4⟩ := He.ba h
  refine ⟨of_decide_eq_true h1, of_decide_eq_true h2, of_decide_eq_true h3, ?_⟩
  unfold gAt
  cases e : PySem.W.recIn K (pAt K C f) "property" with
  | none => rw [e] at h4; cases h4
  | some l =>
    rw [e] at h4
    cases l with
    | nil => cases h4
    | cons v r =>
      cases v with
      | ref g => exact ⟨r, rfl⟩
      | _ => cases h4
theorem icl_ok {K : Fr} {C : Str} (h : iclB C K = true) : ICl K (He.ga K C) := by
  unfold iclB at h
  obtain ⟨h1, h⟩ := He.ba h
  obtain ⟨h2, h⟩ := He.ba h
  obtain ⟨h3, h4⟩ := He.ba h
  exact ⟨of_decide_eq_true h1, of_decide_eq_true h2, of_decide_eq_true h3, of_decide_eq_true h4⟩

abbrev WW : Want := and2 want1 want2
abbrev CMx (K : Fr) : Addr := He.ga K "Machine"
abbrev CRx (K : Fr) : Addr := He.ga K "Ring"
abbrev CKx (K : Fr) : Addr := He.ga K "Knot"
abbrev CAx (K : Fr) : Addr := He.ga K "Answer"
theorem Told.f {W : Want} {h : Heap} {K : Fr} {c p : Addr} (t : Told W h K c p) (i : Nat) {f : He.Fa} (e : W.fa[i]? = some f) : f.ok K = true := t.fa f (List.mem_of_getElem? e)
theorem Told.x {W : Want} {h : Heap} {K : Fr} {c p : Addr} (t : Told W h K c p) (i : Nat) {f : Fr → Bool} (e : W.ex[i]? = some f) : f K = true := t.ex f (List.mem_of_getElem? e)
theorem Told.d {W : Want} {h : Heap} {K : Fr} {c p : Addr} (t : Told W h K c p) (i : Nat) {d : DX} (e : W.ds[i]? = some d) : fW K d = d.val ∧ d.ok K = true := ⟨(t.ds d (List.mem_of_getElem? e)).2, (t.ds d (List.mem_of_getElem? e)).1⟩
section
variable {w : World} {K : Fr} {h : Heap} {mg : Str → Option Value} {base : Heap} {c p : Addr}
theorem tB (t : Told WW h K c p) (G : h.Ns mainGlobals mg) : Bt mg := ⟨He.free_ok t.in_ G (t.f 0 (f := .free "len") rfl), He.free_ok t.in_ G (t.f 1 (f := .free "tuple") rfl), He.free_ok t.in_ G (t.f 2 (f := .free "list") rfl), He.free_ok t.in_ G (t.f 3 (f := .free "range") rfl), He.free_ok t.in_ G (t.f 4 (f := .free "sorted") rfl), He.free_ok t.in_ G (t.f 5 (f := .free "set") rfl), He.free_ok t.in_ G (t.f 6 (f := .free "enumerate") rfl), He.free_ok t.in_ G (t.f 7 (f := .free "zip") rfl), He.free_ok t.in_ G (t.f 8 (f := .free "isinstance") rfl), He.free_ok t.in_ G (t.f 9 (f := .free "all") rfl), He.free_ok t.in_ G (t.f 10 (f := .free "int") rfl), He.free_ok t.in_ G (t.f 11 (f := .free "str") rfl), He.free_ok t.in_ G (t.f 12 (f := .free "bool") rfl), He.free_ok t.in_ G (t.f 13 (f := .free "dict") rfl), He.free_ok t.in_ G (t.f 14 (f := .free "abs") rfl), He.free_ok t.in_ G (t.f 15 (f := .free "repr") rfl), He.free_ok t.in_ G (t.f 16 (f := .free "super") rfl)⟩
theorem int_of {x : Str} {i : Int} (h : ∃ t, mg x = some (.int i t)) : ∃ u, mg x = some u ∧ RelV (.int i) u := by
  obtain ⟨t, e⟩ := h
  exact ⟨_, e, t, rfl⟩
theorem str_of {x z : Str} (h : ∃ t, mg x = some (.str z t)) : ∃ u, mg x = some u ∧ RelV (.str z) u := by
  obtain ⟨t, e⟩ := h
  exact ⟨_, e, t, rfl⟩
theorem tC (t : Told WW h K c p) (G : h.Ns mainGlobals mg) : Ct mg := ⟨by rw [← small_txt]; exact str_of (He.str_ok t.in_ G (t.f 17 (f := .str "SMALL" "abcdefghijklmnopqrstuvwxyz") rfl)), int_of (He.int_ok t.in_ G (t.f 18 (f := .int "MOST_LETTERS" 4) rfl)), int_of (He.int_ok t.in_ G (t.f 19 (f := .int "MOST_BUILT" 6) rfl)), int_of (He.int_ok t.in_ G (t.f 20 (f := .int "MOST_STATES" 1000) rfl)), int_of (He.int_ok t.in_ G (t.f 21 (f := .int "MOST_PRIME_build" 97) rfl))⟩
theorem cM (t : Told WW h K c p) : MCl K (CMx K) := ⟨He.cls_ok (t.f 149 (f := .cls "Machine") rfl), He.noat_ok (t.f 153 (f := .noat "Machine" "own_alphabet") rfl), He.noat_ok (t.f 154 (f := .noat "Machine" "own_rows") rfl), He.noat_ok (t.f 155 (f := .noat "Machine" "own_start") rfl)⟩
theorem cR (t : Told WW h K c p) : RCl K (CRx K) := ⟨He.cls_ok (t.f 151 (f := .cls "Ring") rfl), He.noat_ok (t.f 156 (f := .noat "Ring" "machine") rfl), He.noat_ok (t.f 157 (f := .noat "Ring" "word") rfl), He.noat_ok (t.f 158 (f := .noat "Ring" "states") rfl)⟩
theorem cK (t : Told WW h K c p) : KCl K (CKx K) := ⟨He.cls_ok (t.f 152 (f := .cls "Knot") rfl), He.noat_ok (t.f 159 (f := .noat "Knot" "machine") rfl), He.noat_ok (t.f 160 (f := .noat "Knot" "states") rfl), He.noat_ok (t.f 161 (f := .noat "Knot" "words") rfl), He.noat_ok (t.f 162 (f := .noat "Knot" "products") rfl)⟩
theorem iR (t : Told WW h K c p) : ICl K (CRx K) := icl_ok (t.x 2 (f := iclB "Ring") rfl)
theorem iK (t : Told WW h K c p) : ICl K (CKx K) := icl_ok (t.x 3 (f := iclB "Knot") rfl)
theorem kKK (t : Told WW h K c p) : PySem.W.kitOne K (.ref (CKx K)) (.ref (CKx K)) = some true := of_decide_eq_true (t.x 4 (f := kitF "Knot" "Knot" true) rfl)
theorem kRR (t : Told WW h K c p) : PySem.W.kitOne K (.ref (CRx K)) (.ref (CRx K)) = some true := of_decide_eq_true (t.x 5 (f := kitF "Ring" "Ring" true) rfl)
theorem kRK (t : Told WW h K c p) : PySem.W.kitOne K (.ref (CRx K)) (.ref (CKx K)) = some false := of_decide_eq_true (t.x 6 (f := kitF "Ring" "Knot" false) rfl)
theorem gK (t : Told WW h K c p) (G : h.Ns mainGlobals mg) : mg "Knot" = some (.ref (CKx K)) := He.glo_ok t.in_ G (t.f 147 (f := .glo "Knot") rfl)
theorem gR (t : Told WW h K c p) (G : h.Ns mainGlobals mg) : mg "Ring" = some (.ref (CRx K)) := He.glo_ok t.in_ G (t.f 146 (f := .glo "Ring") rfl)
theorem E_still (t : Told WW h K c p) : ∃ fd, (FnP K "still" s_still (He.ga K "still") fd) ∧ Binds K fd ["many"] [] := by
  obtain ⟨fd, F⟩ := DX.funD (t.d 0 (d := d0) rfl).1 (t.d 0 (d := d0) rfl).2 rfl
  have F : FnP K "still" s_still (He.ga K "still") fd := F
  exact ⟨fd, F, F.bindsN fun _ _ _ _ _ _ us hl => match us, hl with
    | [_], _ => rfl⟩
theorem F_still (t : Told WW h K c p) (G : h.Ns mainGlobals mg) : Fo PR w K mg base "still" ["many"] 1 sp_still := by
  obtain ⟨fd, F, b⟩ := E_still t
  exact ⟨⟨fd, ok_still F (tB t G), b⟩, He.glo_ok t.in_ G (t.f 22 (f := .glo "still") rfl), He.keep_ok (t.f 23 (f := .keep "still") rfl)⟩
theorem E_product (t : Told WW h K c p) : ∃ fd, (FnP K "product" s_product (He.ga K "product") fd) ∧ Binds K fd ["one", "other"] [] := by
  obtain ⟨fd, F⟩ := DX.funD (t.d 1 (d := d1) rfl).1 (t.d 1 (d := d1) rfl).2 rfl
  have F : FnP K "product" s_product (He.ga K "product") fd := F
  exact ⟨fd, F, F.bindsN fun _ _ _ _ _ _ us hl => match us, hl with
    | [_, _], _ => rfl⟩
theorem F_product (t : Told WW h K c p) (G : h.Ns mainGlobals mg) : Fo PR w K mg base "product" ["one", "other"] 1 sp_product := by
  obtain ⟨fd, F, b⟩ := E_product t
  exact ⟨⟨fd, ok_product F (tB t G), b⟩, He.glo_ok t.in_ G (t.f 24 (f := .glo "product") rfl), He.keep_ok (t.f 25 (f := .keep "product") rfl)⟩
theorem E_undone (t : Told WW h K c p) : ∃ fd, (FnP K "undone" s_undone (He.ga K "undone") fd) ∧ Binds K fd ["turn"] [] := by
  obtain ⟨fd, F⟩ := DX.funD (t.d 2 (d := d2) rfl).1 (t.d 2 (d := d2) rfl).2 rfl
  have F : FnP K "undone" s_undone (He.ga K "undone") fd := F
  exact ⟨fd, F, F.bindsN fun _ _ _ _ _ _ us hl => match us, hl with
    | [_], _ => rfl⟩
theorem F_undone (t : Told WW h K c p) (G : h.Ns mainGlobals mg) : Fo PR w K mg base "undone" ["turn"] 1 sp_undone := by
  obtain ⟨fd, F, b⟩ := E_undone t
  exact ⟨⟨fd, ok_undone F (tB t G), b⟩, He.glo_ok t.in_ G (t.f 26 (f := .glo "undone") rfl), He.keep_ok (t.f 27 (f := .keep "undone") rfl)⟩
theorem E_exchange (t : Told WW h K c p) : ∃ fd, (FnP K "exchange" s_exchange (He.ga K "exchange") fd) ∧ Binds K fd ["one", "other"] [] := by
  obtain ⟨fd, F⟩ := DX.funD (t.d 3 (d := d3) rfl).1 (t.d 3 (d := d3) rfl).2 rfl
  have F : FnP K "exchange" s_exchange (He.ga K "exchange") fd := F
  exact ⟨fd, F, F.bindsN fun _ _ _ _ _ _ us hl => match us, hl with
    | [_, _], _ => rfl⟩
theorem F_exchange (t : Told WW h K c p) (G : h.Ns mainGlobals mg) : Fo PR w K mg base "exchange" ["one", "other"] 2 sp_exchange := by
  obtain ⟨fd, F, b⟩ := E_exchange t
  exact ⟨⟨fd, ok_exchange F (F_product t G) (F_undone t G), b⟩, He.glo_ok t.in_ G (t.f 28 (f := .glo "exchange") rfl), He.keep_ok (t.f 29 (f := .keep "exchange") rfl)⟩
theorem E_generated (t : Told WW h K c p) : ∃ fd, (FnP K "generated" s_generated (He.ga K "generated") fd) ∧ Binds K fd ["makers", "many"] [] := by
  obtain ⟨fd, F⟩ := DX.funD (t.d 4 (d := d4) rfl).1 (t.d 4 (d := d4) rfl).2 rfl
  have F : FnP K "generated" s_generated (He.ga K "generated") fd := F
  exact ⟨fd, F, F.bindsN fun _ _ _ _ _ _ us hl => match us, hl with
    | [_, _], _ => rfl⟩
theorem F_generated (t : Told WW h K c p) (G : h.Ns mainGlobals mg) : Fo PR w K mg base "generated" ["makers", "many"] 3 sp_generated := by
  obtain ⟨fd, F, b⟩ := E_generated t
  exact ⟨⟨fd, ok_generated F (tB t G) (F_still t G) (F_product t G), b⟩, He.glo_ok t.in_ G (t.f 30 (f := .glo "generated") rfl), He.keep_ok (t.f 31 (f := .keep "generated") rfl)⟩
theorem E_few_makers (t : Told WW h K c p) : ∃ fd, (FnP K "few_makers" s_few_makers (He.ga K "few_makers") fd) ∧ Binds K fd ["turns", "many"] [] := by
  obtain ⟨fd, F⟩ := DX.funD (t.d 6 (d := d6) rfl).1 (t.d 6 (d := d6) rfl).2 rfl
  have F : FnP K "few_makers" s_few_makers (He.ga K "few_makers") fd := F
  exact ⟨fd, F, F.bindsN fun _ _ _ _ _ _ us hl => match us, hl with
    | [_, _], _ => rfl⟩
theorem F_few_makers (t : Told WW h K c p) (G : h.Ns mainGlobals mg) : Fo PR w K mg base "few_makers" ["turns", "many"] 4 sp_few := by
  obtain ⟨fd, F, b⟩ := E_few_makers t
  exact ⟨⟨fd, ok_few F (tB t G) (F_still t G) (F_generated t G), b⟩, He.glo_ok t.in_ G (t.f 34 (f := .glo "few_makers") rfl), He.keep_ok (t.f 35 (f := .keep "few_makers") rfl)⟩
theorem E_exchanges_of (t : Told WW h K c p) : ∃ fd, (FnP K "exchanges_of" s_exchanges_of (He.ga K "exchanges_of") fd) ∧ Binds K fd ["turns", "many"] [] := by
  obtain ⟨fd, F⟩ := DX.funD (t.d 5 (d := d5) rfl).1 (t.d 5 (d := d5) rfl).2 rfl
  have F : FnP K "exchanges_of" s_exchanges_of (He.ga K "exchanges_of") fd := F
  exact ⟨fd, F, F.bindsN fun _ _ _ _ _ _ us hl => match us, hl with
    | [_, _], _ => rfl⟩
theorem F_exchanges_of (t : Told WW h K c p) (G : h.Ns mainGlobals mg) : Fo PR w K mg base "exchanges_of" ["turns", "many"] 5 sp_exs := by
  obtain ⟨fd, F, b⟩ := E_exchanges_of t
  exact ⟨⟨fd, ok_exs F (tB t G) (F_exchange t G) (F_generated t G) (F_few_makers t G), b⟩, He.glo_ok t.in_ G (t.f 32 (f := .glo "exchanges_of") rfl), He.keep_ok (t.f 33 (f := .keep "exchanges_of") rfl)⟩
theorem E_series_of (t : Told WW h K c p) : ∃ fd, (FnP K "series_of" s_series_of (He.ga K "series_of") fd) ∧ Binds K fd ["turns", "many"] [] := by
  obtain ⟨fd, F⟩ := DX.funD (t.d 7 (d := d7) rfl).1 (t.d 7 (d := d7) rfl).2 rfl
  have F : FnP K "series_of" s_series_of (He.ga K "series_of") fd := F
  exact ⟨fd, F, F.bindsN fun _ _ _ _ _ _ us hl => match us, hl with
    | [_, _], _ => rfl⟩
theorem F_series_of (t : Told WW h K c p) (G : h.Ns mainGlobals mg) : Fo PR w K mg base "series_of" ["turns", "many"] 6 sp_series := by
  obtain ⟨fd, F, b⟩ := E_series_of t
  exact ⟨⟨fd, ok_series F (tB t G) (F_exchanges_of t G), b⟩, He.glo_ok t.in_ G (t.f 36 (f := .glo "series_of") rfl), He.keep_ok (t.f 37 (f := .keep "series_of") rfl)⟩
theorem E_rings_in (t : Told WW h K c p) : ∃ fd, (FnP K "rings_in" s_rings_in (He.ga K "rings_in") fd) ∧ Binds K fd ["turn"] [] := by
  obtain ⟨fd, F⟩ := DX.funD (t.d 8 (d := d8) rfl).1 (t.d 8 (d := d8) rfl).2 rfl
  have F : FnP K "rings_in" s_rings_in (He.ga K "rings_in") fd := F
  exact ⟨fd, F, F.bindsN fun _ _ _ _ _ _ us hl => match us, hl with
    | [_], _ => rfl⟩
theorem F_rings_in (t : Told WW h K c p) (G : h.Ns mainGlobals mg) : Fo PR w K mg base "rings_in" ["turn"] 1 sp_rings := by
  obtain ⟨fd, F, b⟩ := E_rings_in t
  exact ⟨⟨fd, ok_rings F (tB t G), b⟩, He.glo_ok t.in_ G (t.f 38 (f := .glo "rings_in") rfl), He.keep_ok (t.f 39 (f := .keep "rings_in") rfl)⟩
theorem E_is_number (t : Told WW h K c p) : ∃ fd, FnPD K "is_number" s_is_number [.non] (He.ga K "is_number") fd := by
  obtain ⟨fd, F⟩ := DX.funD (t.d 18 (d := d18) rfl).1 (t.d 18 (d := d18) rfl).2 rfl
  exact ⟨fd, F⟩
theorem F_is_number (t : Told WW h K c p) (G : h.Ns mainGlobals mg) : Fo PR w K mg base "is_number" ["value", "least", "most"] 1 sp_number := by
  obtain ⟨fd, F⟩ := E_is_number t
  obtain ⟨ds, rd, b⟩ := FunD.binds1 (ps := ["value", "least", "most"]) F 3 1 (by simp) rfl fun T' kV doc pm an cdv ct us its hu hi => match us, its, hu, hi with
    | [_, _, _], [_], _, _ => ⟨_, rfl, rfl⟩
  have e : ds = [] := by
    cases rd
    rfl
  subst e
  exact ⟨⟨fd, ok_number F (tB t G), b⟩, He.glo_ok t.in_ G (t.f 58 (f := .glo "is_number") rfl), He.keep_ok (t.f 59 (f := .keep "is_number") rfl)⟩
theorem F_is_number2 (t : Told WW h K c p) (G : h.Ns mainGlobals mg) : FoD PR w K mg base "is_number" ["value", "least", "most"] 1 sp_number [.non] := by
  obtain ⟨fd, F⟩ := E_is_number t
  obtain ⟨ds, rd, b⟩ := FunD.binds1 (ps := ["value", "least", "most"]) F 2 0 (by simp) rfl fun T' kV doc pm an cdv ct us its hu hi => match us, its, hu, hi with
    | [_, _], [_], _, _ => ⟨_, rfl, rfl⟩
  exact ⟨⟨fd, ds, ok_number F (tB t G), b, rd⟩, He.glo_ok t.in_ G (t.f 58 (f := .glo "is_number") rfl), He.keep_ok (t.f 59 (f := .keep "is_number") rfl)⟩
theorem E_is_prime (t : Told WW h K c p) : ∃ fd, (FnP K "is_prime" s_is_prime (He.ga K "is_prime") fd) ∧ Binds K fd ["value", "most"] [] := by
  obtain ⟨fd, F⟩ := DX.funD (t.d 19 (d := d19) rfl).1 (t.d 19 (d := d19) rfl).2 rfl
  have F : FnP K "is_prime" s_is_prime (He.ga K "is_prime") fd := F
  exact ⟨fd, F, F.bindsN fun _ _ _ _ _ _ us hl => match us, hl with
    | [_, _], _ => rfl⟩
theorem F_is_prime (t : Told WW h K c p) (G : h.Ns mainGlobals mg) : Fo PR w K mg base "is_prime" ["value", "most"] 2 sp_prime := by
  obtain ⟨fd, F, b⟩ := E_is_prime t
  exact ⟨⟨fd, ok_prime F (tB t G) (F_is_number t G), b⟩, He.glo_ok t.in_ G (t.f 60 (f := .glo "is_prime") rfl), He.keep_ok (t.f 61 (f := .keep "is_prime") rfl)⟩
theorem E_ascends (t : Told WW h K c p) : ∃ fd, (FnP K "ascends" s_ascends (He.ga K "ascends") fd) ∧ Binds K fd ["letters"] [] := by
  obtain ⟨fd, F⟩ := DX.funD (t.d 20 (d := d20) rfl).1 (t.d 20 (d := d20) rfl).2 rfl
  have F : FnP K "ascends" s_ascends (He.ga K "ascends") fd := F
  exact ⟨fd, F, F.bindsN fun _ _ _ _ _ _ us hl => match us, hl with
    | [_], _ => rfl⟩
theorem F_ascendsT (t : Told WW h K c p) (G : h.Ns mainGlobals mg) : Fo PR w K mg base "ascends" ["letters"] 1 sp_ascT := by
  obtain ⟨fd, F, b⟩ := E_ascends t
  exact ⟨⟨fd, ok_ascT F (tB t G), b⟩, He.glo_ok t.in_ G (t.f 62 (f := .glo "ascends") rfl), He.keep_ok (t.f 63 (f := .keep "ascends") rfl)⟩
theorem F_ascendsI (t : Told WW h K c p) (G : h.Ns mainGlobals mg) : Fo PR w K mg base "ascends" ["letters"] 1 sp_ascI := by
  obtain ⟨fd, F, b⟩ := E_ascends t
  exact ⟨⟨fd, ok_ascI F (tB t G), b⟩, He.glo_ok t.in_ G (t.f 62 (f := .glo "ascends") rfl), He.keep_ok (t.f 63 (f := .keep "ascends") rfl)⟩
theorem E_is_alphabet (t : Told WW h K c p) : ∃ fd, (FnP K "is_alphabet" s_is_alphabet (He.ga K "is_alphabet") fd) ∧ Binds K fd ["value"] [] := by
  obtain ⟨fd, F⟩ := DX.funD (t.d 21 (d := d21) rfl).1 (t.d 21 (d := d21) rfl).2 rfl
  have F : FnP K "is_alphabet" s_is_alphabet (He.ga K "is_alphabet") fd := F
  exact ⟨fd, F, F.bindsN fun _ _ _ _ _ _ us hl => match us, hl with
    | [_], _ => rfl⟩
theorem F_is_alphabet (t : Told WW h K c p) (G : h.Ns mainGlobals mg) : Fo PR w K mg base "is_alphabet" ["value"] 2 sp_isal := by
  obtain ⟨fd, F, b⟩ := E_is_alphabet t
  exact ⟨⟨fd, ok_isal F (tB t G) (tC t G) (F_ascendsT t G), b⟩, He.glo_ok t.in_ G (t.f 64 (f := .glo "is_alphabet") rfl), He.keep_ok (t.f 65 (f := .keep "is_alphabet") rfl)⟩
theorem E_is_word (t : Told WW h K c p) : ∃ fd, (FnP K "is_word" s_is_word (He.ga K "is_word") fd) ∧ Binds K fd ["alphabet", "value"] [] := by
  obtain ⟨fd, F⟩ := DX.funD (t.d 22 (d := d22) rfl).1 (t.d 22 (d := d22) rfl).2 rfl
  have F : FnP K "is_word" s_is_word (He.ga K "is_word") fd := F
  exact ⟨fd, F, F.bindsN fun _ _ _ _ _ _ us hl => match us, hl with
    | [_, _], _ => rfl⟩
theorem F_is_word (t : Told WW h K c p) (G : h.Ns mainGlobals mg) : Fo PR w K mg base "is_word" ["alphabet", "value"] 1 sp_isw := by
  obtain ⟨fd, F, b⟩ := E_is_word t
  exact ⟨⟨fd, ok_isw F (tB t G), b⟩, He.glo_ok t.in_ G (t.f 66 (f := .glo "is_word") rfl), He.keep_ok (t.f 67 (f := .keep "is_word") rfl)⟩
theorem E_need_alphabet (t : Told WW h K c p) : ∃ fd, (FnP K "need_alphabet" s_need_alphabet (He.ga K "need_alphabet") fd) ∧ Binds K fd ["value"] [] := by
  obtain ⟨fd, F⟩ := DX.funD (t.d 23 (d := d23) rfl).1 (t.d 23 (d := d23) rfl).2 rfl
  have F : FnP K "need_alphabet" s_need_alphabet (He.ga K "need_alphabet") fd := F
  exact ⟨fd, F, F.bindsN fun _ _ _ _ _ _ us hl => match us, hl with
    | [_], _ => rfl⟩
theorem F_need_alphabet (t : Told WW h K c p) (G : h.Ns mainGlobals mg) : Fo PR w K mg base "need_alphabet" ["value"] 3 sp_needal := by
  obtain ⟨fd, F, b⟩ := E_need_alphabet t
  exact ⟨⟨fd, ok_needal F (tB t G) (F_is_alphabet t G), b⟩, He.glo_ok t.in_ G (t.f 68 (f := .glo "need_alphabet") rfl), He.keep_ok (t.f 69 (f := .keep "need_alphabet") rfl)⟩
theorem E_need_word (t : Told WW h K c p) : ∃ fd, (FnP K "need_word" s_need_word (He.ga K "need_word") fd) ∧ Binds K fd ["alphabet", "value"] [] := by
  obtain ⟨fd, F⟩ := DX.funD (t.d 24 (d := d24) rfl).1 (t.d 24 (d := d24) rfl).2 rfl
  have F : FnP K "need_word" s_need_word (He.ga K "need_word") fd := F
  exact ⟨fd, F, F.bindsN fun _ _ _ _ _ _ us hl => match us, hl with
    | [_, _], _ => rfl⟩
theorem F_need_word (t : Told WW h K c p) (G : h.Ns mainGlobals mg) : Fo PR w K mg base "need_word" ["alphabet", "value"] 2 sp_needw := by
  obtain ⟨fd, F, b⟩ := E_need_word t
  exact ⟨⟨fd, ok_needw F (tB t G) (F_is_word t G), b⟩, He.glo_ok t.in_ G (t.f 70 (f := .glo "need_word") rfl), He.keep_ok (t.f 71 (f := .keep "need_word") rfl)⟩
theorem E_copied (t : Told WW h K c p) : ∃ fd, (FnP K "copied" s_copied (He.ga K "copied") fd) ∧ Binds K fd ["value"] [] := by
  obtain ⟨fd, F⟩ := DX.funD (t.d 34 (d := d34) rfl).1 (t.d 34 (d := d34) rfl).2 rfl
  have F : FnP K "copied" s_copied (He.ga K "copied") fd := F
  exact ⟨fd, F, F.bindsN fun _ _ _ _ _ _ us hl => match us, hl with
    | [_], _ => rfl⟩
theorem fn_no {K : Fr} {f : Addr} {fd : FuncData} {ps : List Str} {k : Nat} : FnOk PR w K mg base CX0 k f fd ps (fun _ _ _ _ => False) := ⟨fun _ _ _ _ z => z.elim, fun _ _ _ _ _ _ _ _ _ _ _ _ _ z => z.elim⟩
theorem C_no (t : Told WW h K c p) (G : h.Ns mainGlobals mg) : Fo PR w K mg base "copied" ["value"] 0 (fun _ _ _ _ => False) := by
  obtain ⟨fd, F, b⟩ := E_copied t
  exact ⟨⟨fd, fn_no, b⟩, He.glo_ok t.in_ G (t.f 90 (f := .glo "copied") rfl), He.keep_ok (t.f 91 (f := .keep "copied") rfl)⟩
theorem C_int (t : Told WW h K c p) (G : h.Ns mainGlobals mg) : Fo PR w K mg base "copied" ["value"] 1 (sp_cp IntV) := by
  obtain ⟨fd, F, b⟩ := E_copied t
  exact ⟨⟨fd, ok_cp0 IntV (fun H v x e => .inl ⟨_, e⟩) F (tB t G) (C_no t G), b⟩, He.glo_ok t.in_ G (t.f 90 (f := .glo "copied") rfl), He.keep_ok (t.f 91 (f := .keep "copied") rfl)⟩
theorem C_str (t : Told WW h K c p) (G : h.Ns mainGlobals mg) : Fo PR w K mg base "copied" ["value"] 1 (sp_cp StrV) := by
  obtain ⟨fd, F, b⟩ := E_copied t
  exact ⟨⟨fd, ok_cp0 StrV (fun H v x e => .inr ⟨_, e⟩) F (tB t G) (C_no t G), b⟩, He.glo_ok t.in_ G (t.f 90 (f := .glo "copied") rfl), He.keep_ok (t.f 91 (f := .keep "copied") rfl)⟩
theorem C_F (t : Told WW h K c p) (G : h.Ns mainGlobals mg) : Fo PR w K mg base "copied" ["value"] 2 sp_cpF := by
  obtain ⟨fd, F, b⟩ := E_copied t
  exact ⟨⟨fd, ok_cpF F (tB t G) (C_int t G), b⟩, He.glo_ok t.in_ G (t.f 90 (f := .glo "copied") rfl), He.keep_ok (t.f 91 (f := .keep "copied") rfl)⟩
theorem C_W (t : Told WW h K c p) (G : h.Ns mainGlobals mg) : Fo PR w K mg base "copied" ["value"] 2 sp_cpW := by
  obtain ⟨fd, F, b⟩ := E_copied t
  exact ⟨⟨fd, ok_cpS StrV 1 stab_str F (tB t G) (C_str t G), b⟩, He.glo_ok t.in_ G (t.f 90 (f := .glo "copied") rfl), He.keep_ok (t.f 91 (f := .keep "copied") rfl)⟩
theorem C_2 (t : Told WW h K c p) (G : h.Ns mainGlobals mg) : Fo PR w K mg base "copied" ["value"] 2 (sp_cp (BTup IntV)) := by
  obtain ⟨fd, F, b⟩ := E_copied t
  exact ⟨⟨fd, ok_cpB IntV 1 stab_int F (tB t G) (C_int t G), b⟩, He.glo_ok t.in_ G (t.f 90 (f := .glo "copied") rfl), He.keep_ok (t.f 91 (f := .keep "copied") rfl)⟩
theorem C_3 (t : Told WW h K c p) (G : h.Ns mainGlobals mg) : Fo PR w K mg base "copied" ["value"] 3 (sp_cp PaV) := by
  obtain ⟨fd, F, b⟩ := E_copied t
  exact ⟨⟨fd, ok_cpB (BTup IntV) 2 stab_int.btup F (tB t G) (C_2 t G), b⟩, He.glo_ok t.in_ G (t.f 90 (f := .glo "copied") rfl), He.keep_ok (t.f 91 (f := .keep "copied") rfl)⟩
theorem C_4 (t : Told WW h K c p) (G : h.Ns mainGlobals mg) : Fo PR w K mg base "copied" ["value"] 4 (sp_cp (BTup PaV)) := by
  obtain ⟨fd, F, b⟩ := E_copied t
  exact ⟨⟨fd, ok_cpB PaV 3 stab_pa F (tB t G) (C_3 t G), b⟩, He.glo_ok t.in_ G (t.f 90 (f := .glo "copied") rfl), He.keep_ok (t.f 91 (f := .keep "copied") rfl)⟩
theorem C_P (t : Told WW h K c p) (G : h.Ns mainGlobals mg) : Fo PR w K mg base "copied" ["value"] 5 sp_cpP := by
  obtain ⟨fd, F, b⟩ := E_copied t
  exact ⟨⟨fd, ok_cpB (BTup PaV) 4 stab_pa.btup F (tB t G) (C_4 t G), b⟩, He.glo_ok t.in_ G (t.f 90 (f := .glo "copied") rfl), He.keep_ok (t.f 91 (f := .keep "copied") rfl)⟩
theorem E_Machine_step (t : Told WW h K c p) : ∃ fd, (FunD K "step" "Machine.step" (defArgs s_Machine_step) (defBody s_Machine_step) (defScope s_Machine_step) [] [] (He.ma K (He.ga K "Machine") "step") fd) ∧ Binds K fd ["self", "state", "at"] [] := by
  obtain ⟨fd, F⟩ := DX.funD (t.d 63 (d := d63) rfl).1 (t.d 63 (d := d63) rfl).2 rfl
  have F : FunD K "step" "Machine.step" (defArgs s_Machine_step) (defBody s_Machine_step) (defScope s_Machine_step) [] [] (He.ma K (He.ga K "Machine") "step") fd := F
  exact ⟨fd, F, F.bindsN fun _ _ _ _ _ _ us hl => match us, hl with
    | [_, _, _], _ => rfl⟩
theorem F_M_step (t : Told WW h K c p) (G : h.Ns mainGlobals mg) : Mo PR w K mg base (CMx K) "step" ["self", "state", "at"] 1 (sp_step (CMx K)) := by
  obtain ⟨fd, F, b⟩ := E_Machine_step t
  exact ⟨⟨fd, ok_step F (cM t), b⟩, He.meth_ok (t.f 163 (f := .meth "Machine" "step") rfl)⟩
theorem E_Machine_need_state (t : Told WW h K c p) : ∃ fd, (FunD K "need_state" "Machine.need_state" (defArgs s_Machine_need_state) (defBody s_Machine_need_state) (defScope s_Machine_need_state) [] [] (He.ma K (He.ga K "Machine") "need_state") fd) ∧ Binds K fd ["self", "state"] [] := by
  obtain ⟨fd, F⟩ := DX.funD (t.d 64 (d := d64) rfl).1 (t.d 64 (d := d64) rfl).2 rfl
  have F : FunD K "need_state" "Machine.need_state" (defArgs s_Machine_need_state) (defBody s_Machine_need_state) (defScope s_Machine_need_state) [] [] (He.ma K (He.ga K "Machine") "need_state") fd := F
  exact ⟨fd, F, F.bindsN fun _ _ _ _ _ _ us hl => match us, hl with
    | [_, _], _ => rfl⟩
theorem F_M_need_state (t : Told WW h K c p) (G : h.Ns mainGlobals mg) : Mo PR w K mg base (CMx K) "need_state" ["self", "state"] 2 (sp_needst (CMx K)) := by
  obtain ⟨fd, F, b⟩ := E_Machine_need_state t
  exact ⟨⟨fd, ok_needst F (tB t G) (cM t) (F_is_number t G), b⟩, He.meth_ok (t.f 164 (f := .meth "Machine" "need_state") rfl)⟩
theorem E_Machine_led (t : Told WW h K c p) : ∃ fd, (FunD K "led" "Machine.led" (defArgs s_Machine_led) (defBody s_Machine_led) (defScope s_Machine_led) [] [] (He.ma K (He.ga K "Machine") "led") fd) ∧ Binds K fd ["self", "state", "word"] [] := by
  obtain ⟨fd, F⟩ := DX.funD (t.d 65 (d := d65) rfl).1 (t.d 65 (d := d65) rfl).2 rfl
  have F : FunD K "led" "Machine.led" (defArgs s_Machine_led) (defBody s_Machine_led) (defScope s_Machine_led) [] [] (He.ma K (He.ga K "Machine") "led") fd := F
  exact ⟨fd, F, F.bindsN fun _ _ _ _ _ _ us hl => match us, hl with
    | [_, _, _], _ => rfl⟩
theorem F_M_led (t : Told WW h K c p) (G : h.Ns mainGlobals mg) : Mo PR w K mg base (CMx K) "led" ["self", "state", "word"] 3 (sp_led (CMx K)) := by
  obtain ⟨fd, F, b⟩ := E_Machine_led t
  exact ⟨⟨fd, ok_led F (tB t G) (cM t) (F_M_need_state t G) (F_need_word t G), b⟩, He.meth_ok (t.f 165 (f := .meth "Machine" "led") rfl)⟩
theorem E_Machine_alphabet (t : Told WW h K c p) : ∃ fd, (FunD K "alphabet" "Machine.alphabet" (defArgs s_Machine_alphabet) (defBody s_Machine_alphabet) (defScope s_Machine_alphabet) [] [] (gAt K "Machine" "alphabet") fd) ∧ Binds K fd ["self"] [] := by
  obtain ⟨fd, F⟩ := DX.funD (t.d 75 (d := d75) rfl).1 (t.d 75 (d := d75) rfl).2 rfl
  have F : FunD K "alphabet" "Machine.alphabet" (defArgs s_Machine_alphabet) (defBody s_Machine_alphabet) (defScope s_Machine_alphabet) [] [] (gAt K "Machine" "alphabet") fd := F
  exact ⟨fd, F, F.bindsN fun _ _ _ _ _ _ us hl => match us, hl with
    | [_], _ => rfl⟩
theorem F_M_alphabet (t : Told WW h K c p) (G : h.Ns mainGlobals mg) : Po PR w K mg base (CMx K) "alphabet" 1 (sp_alph (CMx K)) := by
  obtain ⟨fd, F, b⟩ := E_Machine_alphabet t
  exact ⟨⟨_, _, fd, prop_ok (t.x 0 (f := propB "Machine" "alphabet") rfl), ok_alph F (cM t), b⟩⟩
theorem E_first_words (t : Told WW h K c p) : ∃ fd, (FnP K "first_words" s_first_words (He.ga K "first_words") fd) ∧ Binds K fd ["rows", "starts", "letters"] [] := by
  obtain ⟨fd, F⟩ := DX.funD (t.d 16 (d := d16) rfl).1 (t.d 16 (d := d16) rfl).2 rfl
  have F : FnP K "first_words" s_first_words (He.ga K "first_words") fd := F
  exact ⟨fd, F, F.bindsN fun _ _ _ _ _ _ us hl => match us, hl with
    | [_, _, _], _ => rfl⟩
theorem F_first_words (t : Told WW h K c p) (G : h.Ns mainGlobals mg) : Fo PR w K mg base "first_words" ["rows", "starts", "letters"] 1 sp_fw := by
  obtain ⟨fd, F, b⟩ := E_first_words t
  exact ⟨⟨fd, ok_fw F (tB t G), b⟩, He.glo_ok t.in_ G (t.f 54 (f := .glo "first_words") rfl), He.keep_ok (t.f 55 (f := .keep "first_words") rfl)⟩
theorem E_Machine_words_to_states (t : Told WW h K c p) : ∃ fd, (FunD K "words_to_states" "Machine.words_to_states" (defArgs s_Machine_words_to_states) (defBody s_Machine_words_to_states) (defScope s_Machine_words_to_states) [] [] (He.ma K (He.ga K "Machine") "words_to_states") fd) ∧ Binds K fd ["self"] [] := by
  obtain ⟨fd, F⟩ := DX.funD (t.d 66 (d := d66) rfl).1 (t.d 66 (d := d66) rfl).2 rfl
  have F : FunD K "words_to_states" "Machine.words_to_states" (defArgs s_Machine_words_to_states) (defBody s_Machine_words_to_states) (defScope s_Machine_words_to_states) [] [] (He.ma K (He.ga K "Machine") "words_to_states") fd := F
  exact ⟨fd, F, F.bindsN fun _ _ _ _ _ _ us hl => match us, hl with
    | [_], _ => rfl⟩
theorem F_M_words_to_states (t : Told WW h K c p) (G : h.Ns mainGlobals mg) : Mo PR w K mg base (CMx K) "words_to_states" ["self"] 2 (sp_wts (CMx K)) := by
  obtain ⟨fd, F, b⟩ := E_Machine_words_to_states t
  exact ⟨⟨fd, ok_wts F (cM t) (F_first_words t G), b⟩, He.meth_ok (t.f 166 (f := .meth "Machine" "words_to_states") rfl)⟩
theorem E_Machine_reachable (t : Told WW h K c p) : ∃ fd, (FunD K "reachable" "Machine.reachable" (defArgs s_Machine_reachable) (defBody s_Machine_reachable) (defScope s_Machine_reachable) [] [] (He.ma K (He.ga K "Machine") "reachable") fd) ∧ Binds K fd ["self"] [] := by
  obtain ⟨fd, F⟩ := DX.funD (t.d 67 (d := d67) rfl).1 (t.d 67 (d := d67) rfl).2 rfl
  have F : FunD K "reachable" "Machine.reachable" (defArgs s_Machine_reachable) (defBody s_Machine_reachable) (defScope s_Machine_reachable) [] [] (He.ma K (He.ga K "Machine") "reachable") fd := F
  exact ⟨fd, F, F.bindsN fun _ _ _ _ _ _ us hl => match us, hl with
    | [_], _ => rfl⟩
theorem F_M_reachable (t : Told WW h K c p) (G : h.Ns mainGlobals mg) : Mo PR w K mg base (CMx K) "reachable" ["self"] 3 (sp_reach (CMx K)) := by
  obtain ⟨fd, F, b⟩ := E_Machine_reachable t
  exact ⟨⟨fd, ok_reach F (tB t G) (cM t) (F_M_words_to_states t G), b⟩, He.meth_ok (t.f 167 (f := .meth "Machine" "reachable") rfl)⟩
theorem E_is_row (t : Told WW h K c p) : ∃ fd, (FnP K "is_row" s_is_row (He.ga K "is_row") fd) ∧ Binds K fd ["value", "width", "many"] [] := by
  obtain ⟨fd, F⟩ := DX.funD (t.d 17 (d := d17) rfl).1 (t.d 17 (d := d17) rfl).2 rfl
  have F : FnP K "is_row" s_is_row (He.ga K "is_row") fd := F
  exact ⟨fd, F, F.bindsN fun _ _ _ _ _ _ us hl => match us, hl with
    | [_, _, _], _ => rfl⟩
theorem F_is_row (t : Told WW h K c p) (G : h.Ns mainGlobals mg) : Fo PR w K mg base "is_row" ["value", "width", "many"] 2 sp_isrow := by
  obtain ⟨fd, F, b⟩ := E_is_row t
  exact ⟨⟨fd, ok_isrow F (tB t G) (F_is_number t G), b⟩, He.glo_ok t.in_ G (t.f 56 (f := .glo "is_row") rfl), He.keep_ok (t.f 57 (f := .keep "is_row") rfl)⟩
theorem F_Machine (t : Told WW h K c p) (G : h.Ns mainGlobals mg) : MaK PR w K mg base "Machine" (CMx K) ["self", "alphabet", "rows", "start"] ["start"] 2 4 (sp_minit (CMx K)) := by
  obtain ⟨fd, F⟩ := DX.funD (t.d 62 (d := d62) rfl).1 (t.d 62 (d := d62) rfl).2 rfl
  have F : FunD K "__init__" "Machine.__init__" (defArgs s_Machine___init__) (defBody s_Machine___init__) (defScope s_Machine___init__) [] [("start", .int 0)] (He.ma K (He.ga K "Machine") "__init__") fd := F
  obtain ⟨mv, b⟩ := FunD.kbinds0 (ps := ["self", "alphabet", "rows", "start"]) F 3 ["start"] [] (fun us mv ws => us ++ mv ++ ws) (by simp) (fun q z => (List.not_mem_nil z).elim) (fun r1 r2 r3 => (r1.append r2).append r3) fun D doc pm an cdv ct us mv ws h1 h2 h3 => match us, mv, ws, h1, h2, h3 with
    | [_, _, _], [], [_], _, _, _ => rfl
  have b2 : KBn K fd ["self", "alphabet", "rows", "start"] 3 ["start"] (fun us ws => us ++ mv ++ ws) (fun vs zs => vs ++ zs) := by
    have e : (fun vs zs : List V => (vs ++ ([] : List (Str × V)).map (·.2)) ++ zs) = fun vs zs => vs ++ zs := by
      funext vs zs
      rw [List.map_nil, List.append_nil]
    rw [← e]
    exact b
  exact ⟨⟨_, fd, mv, ok_minit F (tB t G) (tC t G) (cM t) (F_need_alphabet t G) (F_is_row t G) (F_is_number t G), b2, He.mkr_ok (t.f 172 (f := .mkr "Machine") rfl)⟩, He.glo_ok t.in_ G (t.f 144 (f := .glo "Machine") rfl)⟩
theorem E_small_reach (t : Told WW h K c p) : ∃ fd, (FnP K "small_reach" s_small_reach (He.ga K "small_reach") fd) ∧ Binds K fd ["machine"] [] := by
  obtain ⟨fd, F⟩ := DX.funD (t.d 9 (d := d9) rfl).1 (t.d 9 (d := d9) rfl).2 rfl
  have F : FnP K "small_reach" s_small_reach (He.ga K "small_reach") fd := F
  exact ⟨fd, F, F.bindsN fun _ _ _ _ _ _ us hl => match us, hl with
    | [_], _ => rfl⟩
theorem F_small_reach (t : Told WW h K c p) (G : h.Ns mainGlobals mg) : Fo PR w K mg base "small_reach" ["machine"] 4 (sp_small (CMx K)) := by
  obtain ⟨fd, F, b⟩ := E_small_reach t
  exact ⟨⟨fd, ok_small F (tB t G) (tC t G) (cM t) (F_M_reachable t G), b⟩, He.glo_ok t.in_ G (t.f 40 (f := .glo "small_reach") rfl), He.keep_ok (t.f 41 (f := .keep "small_reach") rfl)⟩
theorem E_is_set (t : Told WW h K c p) : ∃ fd, (FnP K "is_set" s_is_set (He.ga K "is_set") fd) ∧ Binds K fd ["reached", "value"] [] := by
  obtain ⟨fd, F⟩ := DX.funD (t.d 10 (d := d10) rfl).1 (t.d 10 (d := d10) rfl).2 rfl
  have F : FnP K "is_set" s_is_set (He.ga K "is_set") fd := F
  exact ⟨fd, F, F.bindsN fun _ _ _ _ _ _ us hl => match us, hl with
    | [_, _], _ => rfl⟩
theorem F_is_set (t : Told WW h K c p) (G : h.Ns mainGlobals mg) : Fo PR w K mg base "is_set" ["reached", "value"] 2 sp_isset := by
  obtain ⟨fd, F, b⟩ := E_is_set t
  exact ⟨⟨fd, ok_isset F (tB t G) (F_is_number2 t G) (F_ascendsI t G), b⟩, He.glo_ok t.in_ G (t.f 42 (f := .glo "is_set") rfl), He.keep_ok (t.f 43 (f := .keep "is_set") rfl)⟩
theorem E_led_set (t : Told WW h K c p) : ∃ fd, (FnP K "led_set" s_led_set (He.ga K "led_set") fd) ∧ Binds K fd ["machine", "states", "word"] [] := by
  obtain ⟨fd, F⟩ := DX.funD (t.d 11 (d := d11) rfl).1 (t.d 11 (d := d11) rfl).2 rfl
  have F : FnP K "led_set" s_led_set (He.ga K "led_set") fd := F
  exact ⟨fd, F, F.bindsN fun _ _ _ _ _ _ us hl => match us, hl with
    | [_, _, _], _ => rfl⟩
theorem F_led_set (t : Told WW h K c p) (G : h.Ns mainGlobals mg) : Fo PR w K mg base "led_set" ["machine", "states", "word"] 4 (sp_ledset (CMx K)) := by
  obtain ⟨fd, F, b⟩ := E_led_set t
  exact ⟨⟨fd, ok_ledset F (tB t G) (cM t) (F_M_led t G), b⟩, He.glo_ok t.in_ G (t.f 44 (f := .glo "led_set") rfl), He.keep_ok (t.f 45 (f := .keep "led_set") rfl)⟩
theorem E_inner (t : Told WW h K c p) : ∃ fd, (FnP K "inner" s_inner (He.ga K "inner") fd) ∧ Binds K fd ["states", "turn"] [] := by
  obtain ⟨fd, F⟩ := DX.funD (t.d 14 (d := d14) rfl).1 (t.d 14 (d := d14) rfl).2 rfl
  have F : FnP K "inner" s_inner (He.ga K "inner") fd := F
  exact ⟨fd, F, F.bindsN fun _ _ _ _ _ _ us hl => match us, hl with
    | [_, _], _ => rfl⟩
theorem F_inner (t : Told WW h K c p) (G : h.Ns mainGlobals mg) : Fo PR w K mg base "inner" ["states", "turn"] 1 sp_inner := by
  obtain ⟨fd, F, b⟩ := E_inner t
  exact ⟨⟨fd, ok_inner F (tB t G), b⟩, He.glo_ok t.in_ G (t.f 50 (f := .glo "inner") rfl), He.keep_ok (t.f 51 (f := .keep "inner") rfl)⟩
theorem E_one_to_one (t : Told WW h K c p) : ∃ fd, (FnP K "one_to_one" s_one_to_one (He.ga K "one_to_one") fd) ∧ Binds K fd ["machine", "states"] [] := by
  obtain ⟨fd, F⟩ := DX.funD (t.d 12 (d := d12) rfl).1 (t.d 12 (d := d12) rfl).2 rfl
  have F : FnP K "one_to_one" s_one_to_one (He.ga K "one_to_one") fd := F
  exact ⟨fd, F, F.bindsN fun _ _ _ _ _ _ us hl => match us, hl with
    | [_, _], _ => rfl⟩
theorem F_one_to_one (t : Told WW h K c p) (G : h.Ns mainGlobals mg) : Fo PR w K mg base "one_to_one" ["machine", "states"] 3 (sp_o2o PR w (CMx K)) := by
  obtain ⟨fd, F, b⟩ := E_one_to_one t
  exact ⟨⟨fd, ok_o2o F (tB t G) (cM t) (F_M_alphabet t G) (F_M_step t G), b⟩, He.glo_ok t.in_ G (t.f 46 (f := .glo "one_to_one") rfl), He.keep_ok (t.f 47 (f := .keep "one_to_one") rfl)⟩
theorem E_turn_words (t : Told WW h K c p) : ∃ fd, (FnP K "turn_words" s_turn_words (He.ga K "turn_words") fd) ∧ Binds K fd ["machine", "states"] [] := by
  obtain ⟨fd, F⟩ := DX.funD (t.d 13 (d := d13) rfl).1 (t.d 13 (d := d13) rfl).2 rfl
  have F : FnP K "turn_words" s_turn_words (He.ga K "turn_words") fd := F
  exact ⟨fd, F, F.bindsN fun _ _ _ _ _ _ us hl => match us, hl with
    | [_, _], _ => rfl⟩
theorem F_turn_words (t : Told WW h K c p) (G : h.Ns mainGlobals mg) : Fo PR w K mg base "turn_words" ["machine", "states"] 4 (sp_tw PR w (CMx K)) := by
  obtain ⟨fd, F, b⟩ := E_turn_words t
  exact ⟨⟨fd, ok_tw F (tB t G) (F_one_to_one t G), b⟩, He.glo_ok t.in_ G (t.f 48 (f := .glo "turn_words") rfl), He.keep_ok (t.f 49 (f := .keep "turn_words") rfl)⟩
theorem E_all_sets (t : Told WW h K c p) : ∃ fd, (FnP K "all_sets" s_all_sets (He.ga K "all_sets") fd) ∧ Binds K fd ["states"] [] := by
  obtain ⟨fd, F⟩ := DX.funD (t.d 15 (d := d15) rfl).1 (t.d 15 (d := d15) rfl).2 rfl
  have F : FnP K "all_sets" s_all_sets (He.ga K "all_sets") fd := F
  exact ⟨fd, F, F.bindsN fun _ _ _ _ _ _ us hl => match us, hl with
    | [_], _ => rfl⟩
theorem code_of (t : Told WW h K c p) {fd : FuncData} (F : FnP K "all_sets" s_all_sets (He.ga K "all_sets") fd) : fd.code = .ref c := by
  obtain ⟨oc, od, dV, kV, doc, pm, an, cdv, ct, osl, rfl, lk, hcd, _, _⟩ := F.ex
  have e := t.co
  unfold cOf at e
  rw [lk] at e
  show cdv = .ref c
  clear F
  cases cdv with
  | ref a => exact congrArg Value.ref e
  | _ => cases hcd
theorem F_all_sets (t : Told WW h K c p) (G : h.Ns mainGlobals mg) (TB : LamX.TabB base mg c p) : Fo PR w K mg base "all_sets" ["states"] 3 (sp_allsets [(p, lamQ)]) := by
  obtain ⟨fd, F, b⟩ := E_all_sets t
  exact ⟨⟨fd, ok_allsets F (tB t G) TB (code_of t F), b⟩, He.glo_ok t.in_ G (t.f 52 (f := .glo "all_sets") rfl), He.keep_ok (t.f 53 (f := .keep "all_sets") rfl)⟩
theorem E_Answer___init__ (t : Told WW h K c p) : ∃ fd, (FunD K "__init__" "Answer.__init__" (defArgs s_Answer___init__) (defBody s_Answer___init__) (defScope s_Answer___init__) [] [] (He.ma K (He.ga K "Answer") "__init__") fd) ∧ Binds K fd ["self", "machine"] [] := by
  obtain ⟨fd, F⟩ := DX.funD (t.d 68 (d := d68) rfl).1 (t.d 68 (d := d68) rfl).2 rfl
  have F : FunD K "__init__" "Answer.__init__" (defArgs s_Answer___init__) (defBody s_Answer___init__) (defScope s_Answer___init__) [] [] (He.ma K (He.ga K "Answer") "__init__") fd := F
  exact ⟨fd, F, F.bindsN fun _ _ _ _ _ _ us hl => match us, hl with
    | [_, _], _ => rfl⟩
theorem F_Ring (t : Told WW h K c p) (G : h.Ns mainGlobals mg) : Ma PR w K mg base "Ring" (CRx K) ["self", "machine", "word", "states"] 4 (sp_rinit (CRx K)) := by
  obtain ⟨fdA, FA, bA⟩ := E_Answer___init__ t
  obtain ⟨fd, S, oc, od, osl, dV, kV, doc, pm, an, cdv, ct, cl, e, hd, lk⟩ := super_ok (P := PR) (mg := mg) (d := d69) (C := CRx K) (fB := He.ma K (CAx K) "__init__") (t.d 69 (d := d69) rfl).1 (t.d 69 (d := d69) rfl).2 rfl (t.x 8 (f := supF "Ring") rfl) (by decide +kernel) (tB t G).super
  have S : SupD PR K mg "__init__" "Ring.__init__" (defArgs s_Ring___init__) (defBody s_Ring___init__) (defScope s_Ring___init__) (CRx K) (He.ma K (CAx K) "__init__") (He.ma K (CRx K) "__init__") fd := S
  have b : Binds K fd ["self", "machine", "word", "states"] [] := by
    rcases hd with ⟨_, rfl⟩ | ⟨z, _⟩
    · subst e
      exact .all fun us hl => match us, hl with
        | [_, _, _, _], _ => rfl
    · exact absurd rfl z
  exact ⟨⟨_, fd, ok_rinit S (ok_ainit FA (cR t).cls (cR t).a1) bA (tB t G) (cR t) (C_str t G) (C_F t G), b, He.mkr_ok (t.f 173 (f := .mkr "Ring") rfl)⟩, He.glo_ok t.in_ G (t.f 146 (f := .glo "Ring") rfl)⟩
theorem F_Knot (t : Told WW h K c p) (G : h.Ns mainGlobals mg) : Ma PR w K mg base "Knot" (CKx K) ["self", "machine", "states", "words", "products"] 6 (sp_kinit (CKx K)) := by
  obtain ⟨fdA, FA, bA⟩ := E_Answer___init__ t
  obtain ⟨fd, S, oc, od, osl, dV, kV, doc, pm, an, cdv, ct, cl, e, hd, lk⟩ := super_ok (P := PR) (mg := mg) (d := d70) (C := CKx K) (fB := He.ma K (CAx K) "__init__") (t.d 70 (d := d70) rfl).1 (t.d 70 (d := d70) rfl).2 rfl (t.x 9 (f := supF "Knot") rfl) (by decide +kernel) (tB t G).super
  have S : SupD PR K mg "__init__" "Knot.__init__" (defArgs s_Knot___init__) (defBody s_Knot___init__) (defScope s_Knot___init__) (CKx K) (He.ma K (CAx K) "__init__") (He.ma K (CKx K) "__init__") fd := S
  have b : Binds K fd ["self", "machine", "states", "words", "products"] [] := by
    rcases hd with ⟨_, rfl⟩ | ⟨z, _⟩
    · subst e
      exact .all fun us hl => match us, hl with
        | [_, _, _, _, _], _ => rfl
    · exact absurd rfl z
  exact ⟨⟨_, fd, ok_kinit S (ok_ainit FA (cK t).cls (cK t).a1) bA (tB t G) (cK t) (C_F t G) (C_W t G) (C_P t G), b, He.mkr_ok (t.f 174 (f := .mkr "Knot") rfl)⟩, He.glo_ok t.in_ G (t.f 147 (f := .glo "Knot") rfl)⟩
theorem E_need_primes (t : Told WW h K c p) : ∃ fd, (FnP K "need_primes" s_need_primes (He.ga K "need_primes") fd) ∧ Binds K fd ["primes"] [] := by
  obtain ⟨fd, F⟩ := DX.funD (t.d 25 (d := d25) rfl).1 (t.d 25 (d := d25) rfl).2 rfl
  have F : FnP K "need_primes" s_need_primes (He.ga K "need_primes") fd := F
  exact ⟨fd, F, F.bindsN fun _ _ _ _ _ _ us hl => match us, hl with
    | [_], _ => rfl⟩
theorem F_need_primes (t : Told WW h K c p) (G : h.Ns mainGlobals mg) : Fo PR w K mg base "need_primes" ["primes"] 3 sp_needpr := by
  obtain ⟨fd, F, b⟩ := E_need_primes t
  exact ⟨⟨fd, ok_needpr F (tB t G) (tC t G) (F_is_prime t G), b⟩, He.glo_ok t.in_ G (t.f 72 (f := .glo "need_primes") rfl), He.keep_ok (t.f 73 (f := .keep "need_primes") rfl)⟩
theorem E_ring_of (t : Told WW h K c p) : ∃ fd, (FnP K "ring_of" s_ring_of (He.ga K "ring_of") fd) ∧ Binds K fd ["machine", "states", "words", "primes"] [] := by
  obtain ⟨fd, F⟩ := DX.funD (t.d 26 (d := d26) rfl).1 (t.d 26 (d := d26) rfl).2 rfl
  have F : FnP K "ring_of" s_ring_of (He.ga K "ring_of") fd := F
  exact ⟨fd, F, F.bindsN fun _ _ _ _ _ _ us hl => match us, hl with
    | [_, _, _, _], _ => rfl⟩
theorem F_ring_of (t : Told WW h K c p) (G : h.Ns mainGlobals mg) : Fo PR w K mg base "ring_of" ["machine", "states", "words", "primes"] 6 (sp_ringof PR w (CMx K) (CRx K)) := by
  obtain ⟨fd, F, b⟩ := E_ring_of t
  exact ⟨⟨fd, ok_ringof F (tB t G) (F_is_prime t G) (F_inner t G) (F_rings_in t G) (F_Ring t G), b⟩, He.glo_ok t.in_ G (t.f 74 (f := .glo "ring_of") rfl), He.keep_ok (t.f 75 (f := .keep "ring_of") rfl)⟩
theorem E_knot_of (t : Told WW h K c p) : ∃ fd, (FnP K "knot_of" s_knot_of (He.ga K "knot_of") fd) ∧ Binds K fd ["machine", "states", "words", "group"] [] := by
  obtain ⟨fd, F⟩ := DX.funD (t.d 27 (d := d27) rfl).1 (t.d 27 (d := d27) rfl).2 rfl
  have F : FnP K "knot_of" s_knot_of (He.ga K "knot_of") fd := F
  exact ⟨fd, F, F.bindsN fun _ _ _ _ _ _ us hl => match us, hl with
    | [_, _, _, _], _ => rfl⟩
theorem F_knot_of (t : Told WW h K c p) (G : h.Ns mainGlobals mg) : Fo PR w K mg base "knot_of" ["machine", "states", "words", "group"] 8 (sp_knotof PR w (CMx K) (CKx K)) := by
  obtain ⟨fd, F, b⟩ := E_knot_of t
  exact ⟨⟨fd, ok_knotof F (tB t G) (F_few_makers t G) (F_generated t G) (F_exchange t G) (F_Knot t G), b⟩, He.glo_ok t.in_ G (t.f 76 (f := .glo "knot_of") rfl), He.keep_ok (t.f 77 (f := .keep "knot_of") rfl)⟩
theorem E_against (t : Told WW h K c p) : ∃ fd, (FnP K "against" s_against (He.ga K "against") fd) ∧ Binds K fd ["machine", "reached", "primes"] [] := by
  obtain ⟨fd, F⟩ := DX.funD (t.d 28 (d := d28) rfl).1 (t.d 28 (d := d28) rfl).2 rfl
  have F : FnP K "against" s_against (He.ga K "against") fd := F
  exact ⟨fd, F, F.bindsN fun _ _ _ _ _ _ us hl => match us, hl with
    | [_, _, _], _ => rfl⟩
theorem F_against (t : Told WW h K c p) (G : h.Ns mainGlobals mg) (TB : LamX.TabB base mg c p) : Fo PR w K mg base "against" ["machine", "reached", "primes"] 9 (sp_against (CMx K) (CRx K) (CKx K) [(p, lamQ)]) := by
  obtain ⟨fd, F, b⟩ := E_against t
  exact ⟨⟨fd, ok_against F (tB t G) (F_all_sets t G TB) (F_turn_words t G) (F_ring_of t G) (F_series_of t G) (F_inner t G) (F_knot_of t G), b⟩, He.glo_ok t.in_ G (t.f 78 (f := .glo "against") rfl), He.keep_ok (t.f 79 (f := .keep "against") rfl)⟩
theorem E_build (t : Told WW h K c p) : ∃ fd, (FnP K "build" s_build (He.ga K "build") fd) := by
  obtain ⟨fd, F⟩ := DX.funD (t.d 29 (d := d29) rfl).1 (t.d 29 (d := d29) rfl).2 rfl
  exact ⟨fd, F⟩
theorem F_build (t : Told WW h K c p) (G : h.Ns mainGlobals mg) (TB : LamX.TabB base mg c p) : Vo PR w K mg base "build" 10 (sp_build (CMx K) (CRx K) (CKx K) [(p, lamQ)]) := by
  obtain ⟨fd, F⟩ := E_build t
  exact ⟨ok_build F (tB t G) (F_small_reach t G) (F_need_primes t G) (F_against t G TB), He.glo_ok t.in_ G (t.f 80 (f := .glo "build") rfl), He.keep_ok (t.f 81 (f := .keep "build") rfl)⟩
theorem E_are_indexes (t : Told WW h K c p) : ∃ fd, (FnP K "are_indexes" s_are_indexes (He.ga K "are_indexes") fd) ∧ Binds K fd ["value", "many"] [] := by
  obtain ⟨fd, F⟩ := DX.funD (t.d 31 (d := d31) rfl).1 (t.d 31 (d := d31) rfl).2 rfl
  have F : FnP K "are_indexes" s_are_indexes (He.ga K "are_indexes") fd := F
  exact ⟨fd, F, F.bindsN fun _ _ _ _ _ _ us hl => match us, hl with
    | [_, _], _ => rfl⟩
theorem F_are_indexes (t : Told WW h K c p) (G : h.Ns mainGlobals mg) : Fo PR w K mg base "are_indexes" ["value", "many"] 2 sp_areidx := by
  obtain ⟨fd, F, b⟩ := E_are_indexes t
  exact ⟨⟨fd, ok_areidx F (tB t G) (F_is_number t G), b⟩, He.glo_ok t.in_ G (t.f 84 (f := .glo "are_indexes") rfl), He.keep_ok (t.f 85 (f := .keep "are_indexes") rfl)⟩
theorem E_along (t : Told WW h K c p) : ∃ fd, (FnP K "along" s_along (He.ga K "along") fd) ∧ Binds K fd ["makers", "indexes"] [] := by
  obtain ⟨fd, F⟩ := DX.funD (t.d 32 (d := d32) rfl).1 (t.d 32 (d := d32) rfl).2 rfl
  have F : FnP K "along" s_along (He.ga K "along") fd := F
  exact ⟨fd, F, F.bindsN fun _ _ _ _ _ _ us hl => match us, hl with
    | [_, _], _ => rfl⟩
theorem F_along (t : Told WW h K c p) (G : h.Ns mainGlobals mg) : Fo PR w K mg base "along" ["makers", "indexes"] 2 sp_along := by
  obtain ⟨fd, F, b⟩ := E_along t
  exact ⟨⟨fd, ok_along F (tB t G) (F_still t G) (F_product t G), b⟩, He.glo_ok t.in_ G (t.f 86 (f := .glo "along") rfl), He.keep_ok (t.f 87 (f := .keep "along") rfl)⟩
theorem E_are_words (t : Told WW h K c p) : ∃ fd, (FnP K "are_words" s_are_words (He.ga K "are_words") fd) ∧ Binds K fd ["alphabet", "value"] [] := by
  obtain ⟨fd, F⟩ := DX.funD (t.d 30 (d := d30) rfl).1 (t.d 30 (d := d30) rfl).2 rfl
  have F : FnP K "are_words" s_are_words (He.ga K "are_words") fd := F
  exact ⟨fd, F, F.bindsN fun _ _ _ _ _ _ us hl => match us, hl with
    | [_, _], _ => rfl⟩
theorem F_are_words (t : Told WW h K c p) (G : h.Ns mainGlobals mg) : Fo PR w K mg base "are_words" ["alphabet", "value"] 2 sp_arew := by
  obtain ⟨fd, F, b⟩ := E_are_words t
  exact ⟨⟨fd, ok_arew F (tB t G) (F_is_word t G), b⟩, He.glo_ok t.in_ G (t.f 82 (f := .glo "are_words") rfl), He.keep_ok (t.f 83 (f := .keep "are_words") rfl)⟩
theorem E_product_of (t : Told WW h K c p) : ∃ fd, (FnP K "product_of" s_product_of (He.ga K "product_of") fd) ∧ Binds K fd ["makers", "pairs"] [] := by
  obtain ⟨fd, F⟩ := DX.funD (t.d 33 (d := d33) rfl).1 (t.d 33 (d := d33) rfl).2 rfl
  have F : FnP K "product_of" s_product_of (He.ga K "product_of") fd := F
  exact ⟨fd, F, F.bindsN fun _ _ _ _ _ _ us hl => match us, hl with
    | [_, _], _ => rfl⟩
theorem F_product_of (t : Told WW h K c p) (G : h.Ns mainGlobals mg) : Fo PR w K mg base "product_of" ["makers", "pairs"] 3 sp_prodof := by
  obtain ⟨fd, F, b⟩ := E_product_of t
  exact ⟨⟨fd, ok_prodof F (tB t G) (F_still t G) (F_product t G) (F_exchange t G) (F_along t G) (F_are_indexes t G), b⟩, He.glo_ok t.in_ G (t.f 88 (f := .glo "product_of") rfl), He.keep_ok (t.f 89 (f := .keep "product_of") rfl)⟩
theorem E_Knot_holds (t : Told WW h K c p) : ∃ fd, (FunD K "holds" "Knot.holds" (defArgs s_Knot_holds) (defBody s_Knot_holds) (defScope s_Knot_holds) [] [] (He.ma K (He.ga K "Knot") "holds") fd) := by
  obtain ⟨fd, F⟩ := DX.funD (t.d 72 (d := d72) rfl).1 (t.d 72 (d := d72) rfl).2 rfl
  exact ⟨fd, F⟩
theorem E_Ring_holds (t : Told WW h K c p) : ∃ fd, (FunD K "holds" "Ring.holds" (defArgs s_Ring_holds) (defBody s_Ring_holds) (defScope s_Ring_holds) [] [] (He.ma K (He.ga K "Ring") "holds") fd) := by
  obtain ⟨fd, F⟩ := DX.funD (t.d 73 (d := d73) rfl).1 (t.d 73 (d := d73) rfl).2 rfl
  exact ⟨fd, F⟩
theorem H_K (t : Told WW h K c p) (G : h.Ns mainGlobals mg) : MoV PR w K mg base (CKx K) "holds" 8 (sp_kholds (CMx K) (CKx K)) := by
  obtain ⟨fd, F⟩ := E_Knot_holds t
  exact ⟨(ok_kholds F (tB t G) (cM t) (cK t) (F_M_reachable t G) (F_M_alphabet t G) (F_is_set t G) (F_are_words t G) (F_led_set t G) (F_inner t G) (F_product_of t G)).mono (by decide), He.meth_ok (t.f 169 (f := .meth "Knot" "holds") rfl)⟩
theorem H_R (t : Told WW h K c p) (G : h.Ns mainGlobals mg) : MoV PR w K mg base (CRx K) "holds" 8 (sp_rholds (CMx K) (CRx K)) := by
  obtain ⟨fd, F⟩ := E_Ring_holds t
  exact ⟨(ok_rholds F (tB t G) (cM t) (cR t) (F_M_reachable t G) (F_M_alphabet t G) (F_is_set t G) (F_is_word t G) (F_is_number2 t G) (F_is_prime t G) (F_led_set t G)).mono (by decide), He.meth_ok (t.f 171 (f := .meth "Ring" "holds") rfl)⟩
theorem E_Knot_told (t : Told WW h K c p) : ∃ fd, (FunD K "told" "Knot.told" (defArgs s_Knot_told) (defBody s_Knot_told) (defScope s_Knot_told) [] [] (He.ma K (He.ga K "Knot") "told") fd) ∧ Binds K fd ["self"] [] := by
  obtain ⟨fd, F⟩ := DX.funD (t.d 71 (d := d71) rfl).1 (t.d 71 (d := d71) rfl).2 rfl
  have F : FunD K "told" "Knot.told" (defArgs s_Knot_told) (defBody s_Knot_told) (defScope s_Knot_told) [] [] (He.ma K (He.ga K "Knot") "told") fd := F
  exact ⟨fd, F, F.bindsN fun _ _ _ _ _ _ us hl => match us, hl with
    | [_], _ => rfl⟩
theorem F_K_told (t : Told WW h K c p) (G : h.Ns mainGlobals mg) : Mo PR w K mg base (CKx K) "told" ["self"] 1 (sp_ktold (CKx K)) := by
  obtain ⟨fd, F, b⟩ := E_Knot_told t
  exact ⟨⟨fd, ok_ktold F (tB t G) (cK t), b⟩, He.meth_ok (t.f 168 (f := .meth "Knot" "told") rfl)⟩
theorem E_Knot_is_built (t : Told WW h K c p) : ∃ fd, (FunD K "is_built" "Answer.is_built" (defArgs s_Answer_is_built) (defBody s_Answer_is_built) (defScope s_Answer_is_built) [] [] (gAt K "Knot" "is_built") fd) ∧ Binds K fd ["self"] [] := by
  obtain ⟨fd, F⟩ := DX.funD (t.d 76 (d := d76) rfl).1 (t.d 76 (d := d76) rfl).2 rfl
  have F : FunD K "is_built" "Answer.is_built" (defArgs s_Answer_is_built) (defBody s_Answer_is_built) (defScope s_Answer_is_built) [] [] (gAt K "Knot" "is_built") fd := F
  exact ⟨fd, F, F.bindsN fun _ _ _ _ _ _ us hl => match us, hl with
    | [_], _ => rfl⟩
theorem F_K_is_built (t : Told WW h K c p) (G : h.Ns mainGlobals mg) : Po PR w K mg base (CKx K) "is_built" 1 sp_isbuilt := by
  obtain ⟨fd, F, b⟩ := E_Knot_is_built t
  exact ⟨⟨_, _, fd, prop_ok (t.x 1 (f := propB "Knot" "is_built") rfl), ok_isbuilt F, b⟩⟩
theorem E_Knot___repr__ (t : Told WW h K c p) : ∃ fd, (FunD K "__repr__" "Answer.__repr__" (defArgs s_Answer___repr__) (defBody s_Answer___repr__) (defScope s_Answer___repr__) [] [] (He.ma K (He.ga K "Knot") "__repr__") fd) ∧ Binds K fd ["self"] [] := by
  obtain ⟨fd, F⟩ := DX.funD (t.d 74 (d := d74) rfl).1 (t.d 74 (d := d74) rfl).2 rfl
  have F : FunD K "__repr__" "Answer.__repr__" (defArgs s_Answer___repr__) (defBody s_Answer___repr__) (defScope s_Answer___repr__) [] [] (He.ma K (He.ga K "Knot") "__repr__") fd := F
  exact ⟨fd, F, F.bindsN fun _ _ _ _ _ _ us hl => match us, hl with
    | [_], _ => rfl⟩
theorem E__law_product (t : Told WW h K c p) : ∃ fd, (FnP K "_law_product" s__law_product (He.ga K "_law_product") fd) ∧ Binds K fd ["_law_one", "_law_other"] [] := by
  obtain ⟨fd, F⟩ := DX.funD (t.d 41 (d := d41) rfl).1 (t.d 41 (d := d41) rfl).2 rfl
  have F : FnP K "_law_product" s__law_product (He.ga K "_law_product") fd := F
  exact ⟨fd, F, F.bindsN fun _ _ _ _ _ _ us hl => match us, hl with
    | [_, _], _ => rfl⟩
theorem F__law_product (t : Told WW h K c p) (G : h.Ns mainGlobals mg) : Fo PR w K mg base "_law_product" ["_law_one", "_law_other"] 1 sp_product := by
  obtain ⟨fd, F, b⟩ := E__law_product t
  exact ⟨⟨fd, ok_lproduct F (tB t G), b⟩, He.glo_ok t.in_ G (t.f 104 (f := .glo "_law_product") rfl), He.keep_ok (t.f 105 (f := .keep "_law_product") rfl)⟩
theorem E__law_undone (t : Told WW h K c p) : ∃ fd, (FnP K "_law_undone" s__law_undone (He.ga K "_law_undone") fd) ∧ Binds K fd ["_law_one"] [] := by
  obtain ⟨fd, F⟩ := DX.funD (t.d 42 (d := d42) rfl).1 (t.d 42 (d := d42) rfl).2 rfl
  have F : FnP K "_law_undone" s__law_undone (He.ga K "_law_undone") fd := F
  exact ⟨fd, F, F.bindsN fun _ _ _ _ _ _ us hl => match us, hl with
    | [_], _ => rfl⟩
theorem F__law_undone (t : Told WW h K c p) (G : h.Ns mainGlobals mg) : Fo PR w K mg base "_law_undone" ["_law_one"] 1 sp_undone := by
  obtain ⟨fd, F, b⟩ := E__law_undone t
  exact ⟨⟨fd, ok_lundone F (tB t G), b⟩, He.glo_ok t.in_ G (t.f 106 (f := .glo "_law_undone") rfl), He.keep_ok (t.f 107 (f := .keep "_law_undone") rfl)⟩
theorem E__law_exchanged (t : Told WW h K c p) : ∃ fd, (FnP K "_law_exchanged" s__law_exchanged (He.ga K "_law_exchanged") fd) ∧ Binds K fd ["_law_one", "_law_other"] [] := by
  obtain ⟨fd, F⟩ := DX.funD (t.d 43 (d := d43) rfl).1 (t.d 43 (d := d43) rfl).2 rfl
  have F : FnP K "_law_exchanged" s__law_exchanged (He.ga K "_law_exchanged") fd := F
  exact ⟨fd, F, F.bindsN fun _ _ _ _ _ _ us hl => match us, hl with
    | [_, _], _ => rfl⟩
theorem F__law_exchanged (t : Told WW h K c p) (G : h.Ns mainGlobals mg) : Fo PR w K mg base "_law_exchanged" ["_law_one", "_law_other"] 2 sp_exchange := by
  obtain ⟨fd, F, b⟩ := E__law_exchanged t
  exact ⟨⟨fd, ok_lexch F (tB t G) (F__law_product t G) (F__law_undone t G), b⟩, He.glo_ok t.in_ G (t.f 108 (f := .glo "_law_exchanged") rfl), He.keep_ok (t.f 109 (f := .keep "_law_exchanged") rfl)⟩
theorem E__law_along (t : Told WW h K c p) : ∃ fd, (FnP K "_law_along" s__law_along (He.ga K "_law_along") fd) ∧ Binds K fd ["_law_makers", "_law_indexes"] [] := by
  obtain ⟨fd, F⟩ := DX.funD (t.d 51 (d := d51) rfl).1 (t.d 51 (d := d51) rfl).2 rfl
  have F : FnP K "_law_along" s__law_along (He.ga K "_law_along") fd := F
  exact ⟨fd, F, F.bindsN fun _ _ _ _ _ _ us hl => match us, hl with
    | [_, _], _ => rfl⟩
theorem F__law_along (t : Told WW h K c p) (G : h.Ns mainGlobals mg) : Fo PR w K mg base "_law_along" ["_law_makers", "_law_indexes"] 2 sp_along := by
  obtain ⟨fd, F, b⟩ := E__law_along t
  exact ⟨⟨fd, ok_lalong F (tB t G) (F__law_product t G), b⟩, He.glo_ok t.in_ G (t.f 124 (f := .glo "_law_along") rfl), He.keep_ok (t.f 125 (f := .keep "_law_along") rfl)⟩
theorem E__law_is_index (t : Told WW h K c p) : ∃ fd, (FnP K "_law_is_index" s__law_is_index (He.ga K "_law_is_index") fd) ∧ Binds K fd ["_law_value", "_law_many"] [] := by
  obtain ⟨fd, F⟩ := DX.funD (t.d 46 (d := d46) rfl).1 (t.d 46 (d := d46) rfl).2 rfl
  have F : FnP K "_law_is_index" s__law_is_index (He.ga K "_law_is_index") fd := F
  exact ⟨fd, F, F.bindsN fun _ _ _ _ _ _ us hl => match us, hl with
    | [_, _], _ => rfl⟩
theorem F__law_is_index (t : Told WW h K c p) (G : h.Ns mainGlobals mg) : Fo PR w K mg base "_law_is_index" ["_law_value", "_law_many"] 1 sp_lindex := by
  obtain ⟨fd, F, b⟩ := E__law_is_index t
  exact ⟨⟨fd, ok_lindex F (tB t G), b⟩, He.glo_ok t.in_ G (t.f 114 (f := .glo "_law_is_index") rfl), He.keep_ok (t.f 115 (f := .keep "_law_is_index") rfl)⟩
theorem E__law_product_told (t : Told WW h K c p) : ∃ fd, (FnP K "_law_product_told" s__law_product_told (He.ga K "_law_product_told") fd) ∧ Binds K fd ["_law_makers", "_law_pairs"] [] := by
  obtain ⟨fd, F⟩ := DX.funD (t.d 52 (d := d52) rfl).1 (t.d 52 (d := d52) rfl).2 rfl
  have F : FnP K "_law_product_told" s__law_product_told (He.ga K "_law_product_told") fd := F
  exact ⟨fd, F, F.bindsN fun _ _ _ _ _ _ us hl => match us, hl with
    | [_, _], _ => rfl⟩
theorem F__law_product_told (t : Told WW h K c p) (G : h.Ns mainGlobals mg) : Fo PR w K mg base "_law_product_told" ["_law_makers", "_law_pairs"] 3 sp_prodof := by
  obtain ⟨fd, F, b⟩ := E__law_product_told t
  exact ⟨⟨fd, ok_ltold F (tB t G) (F__law_product t G) (F__law_exchanged t G) (F__law_along t G) (F__law_is_index t G), b⟩, He.glo_ok t.in_ G (t.f 126 (f := .glo "_law_product_told") rfl), He.keep_ok (t.f 127 (f := .keep "_law_product_told") rfl)⟩
theorem E__law_go (t : Told WW h K c p) : ∃ fd, (FnP K "_law_go" s__law_go (He.ga K "_law_go") fd) ∧ Binds K fd ["_law_goals", "_law_signs", "_law_at", "_law_text"] [] := by
  obtain ⟨fd, F⟩ := DX.funD (t.d 39 (d := d39) rfl).1 (t.d 39 (d := d39) rfl).2 rfl
  have F : FnP K "_law_go" s__law_go (He.ga K "_law_go") fd := F
  exact ⟨fd, F, F.bindsN fun _ _ _ _ _ _ us hl => match us, hl with
    | [_, _, _, _], _ => rfl⟩
theorem F__law_go (t : Told WW h K c p) (G : h.Ns mainGlobals mg) : Fo PR w K mg base "_law_go" ["_law_goals", "_law_signs", "_law_at", "_law_text"] 1 sp_lgo := by
  obtain ⟨fd, F, b⟩ := E__law_go t
  exact ⟨⟨fd, ok_lgo F (tB t G), b⟩, He.glo_ok t.in_ G (t.f 100 (f := .glo "_law_go") rfl), He.keep_ok (t.f 101 (f := .keep "_law_go") rfl)⟩
theorem E__law_is_over (t : Told WW h K c p) : ∃ fd, (FnP K "_law_is_over" s__law_is_over (He.ga K "_law_is_over") fd) ∧ Binds K fd ["_law_signs", "_law_value"] [] := by
  obtain ⟨fd, F⟩ := DX.funD (t.d 48 (d := d48) rfl).1 (t.d 48 (d := d48) rfl).2 rfl
  have F : FnP K "_law_is_over" s__law_is_over (He.ga K "_law_is_over") fd := F
  exact ⟨fd, F, F.bindsN fun _ _ _ _ _ _ us hl => match us, hl with
    | [_, _], _ => rfl⟩
theorem F__law_is_over (t : Told WW h K c p) (G : h.Ns mainGlobals mg) : Fo PR w K mg base "_law_is_over" ["_law_signs", "_law_value"] 1 sp_isw := by
  obtain ⟨fd, F, b⟩ := E__law_is_over t
  exact ⟨⟨fd, ok_lover F (tB t G), b⟩, He.glo_ok t.in_ G (t.f 118 (f := .glo "_law_is_over") rfl), He.keep_ok (t.f 119 (f := .keep "_law_is_over") rfl)⟩
theorem E__law_places (t : Told WW h K c p) : ∃ fd, (FnP K "_law_places" s__law_places (He.ga K "_law_places") fd) ∧ Binds K fd ["_law_states", "_law_rows"] [] := by
  obtain ⟨fd, F⟩ := DX.funD (t.d 44 (d := d44) rfl).1 (t.d 44 (d := d44) rfl).2 rfl
  have F : FnP K "_law_places" s__law_places (He.ga K "_law_places") fd := F
  exact ⟨fd, F, F.bindsN fun _ _ _ _ _ _ us hl => match us, hl with
    | [_, _], _ => rfl⟩
theorem F__law_places (t : Told WW h K c p) (G : h.Ns mainGlobals mg) : Fo PR w K mg base "_law_places" ["_law_states", "_law_rows"] 1 sp_lplaces := by
  obtain ⟨fd, F, b⟩ := E__law_places t
  exact ⟨⟨fd, ok_lplaces F (tB t G), b⟩, He.glo_ok t.in_ G (t.f 110 (f := .glo "_law_places") rfl), He.keep_ok (t.f 111 (f := .keep "_law_places") rfl)⟩
theorem E__law_reach (t : Told WW h K c p) : ∃ fd, (FnP K "_law_reach" s__law_reach (He.ga K "_law_reach") fd) ∧ Binds K fd ["_law_goals", "_law_signs", "_law_at"] [] := by
  obtain ⟨fd, F⟩ := DX.funD (t.d 40 (d := d40) rfl).1 (t.d 40 (d := d40) rfl).2 rfl
  have F : FnP K "_law_reach" s__law_reach (He.ga K "_law_reach") fd := F
  exact ⟨fd, F, F.bindsN fun _ _ _ _ _ _ us hl => match us, hl with
    | [_, _, _], _ => rfl⟩
theorem F__law_reach (t : Told WW h K c p) (G : h.Ns mainGlobals mg) : Fo PR w K mg base "_law_reach" ["_law_goals", "_law_signs", "_law_at"] 1 sp_lreach := by
  obtain ⟨fd, F, b⟩ := E__law_reach t
  exact ⟨⟨fd, ok_lreach F (tB t G), b⟩, He.glo_ok t.in_ G (t.f 102 (f := .glo "_law_reach") rfl), He.keep_ok (t.f 103 (f := .keep "_law_reach") rfl)⟩
theorem E__law_is_prime (t : Told WW h K c p) : ∃ fd, (FnP K "_law_is_prime" s__law_is_prime (He.ga K "_law_is_prime") fd) ∧ Binds K fd ["_law_number"] [] := by
  obtain ⟨fd, F⟩ := DX.funD (t.d 45 (d := d45) rfl).1 (t.d 45 (d := d45) rfl).2 rfl
  have F : FnP K "_law_is_prime" s__law_is_prime (He.ga K "_law_is_prime") fd := F
  exact ⟨fd, F, F.bindsN fun _ _ _ _ _ _ us hl => match us, hl with
    | [_], _ => rfl⟩
theorem F__law_is_prime (t : Told WW h K c p) (G : h.Ns mainGlobals mg) : Fo PR w K mg base "_law_is_prime" ["_law_number"] 1 sp_lprime := by
  obtain ⟨fd, F, b⟩ := E__law_is_prime t
  exact ⟨⟨fd, ok_lprime F (tB t G), b⟩, He.glo_ok t.in_ G (t.f 112 (f := .glo "_law_is_prime") rfl), He.keep_ok (t.f 113 (f := .keep "_law_is_prime") rfl)⟩
theorem E__law_is_states (t : Told WW h K c p) : ∃ fd, (FnP K "_law_is_states" s__law_is_states (He.ga K "_law_is_states") fd) ∧ Binds K fd ["_law_value", "_law_some"] [] := by
  obtain ⟨fd, F⟩ := DX.funD (t.d 47 (d := d47) rfl).1 (t.d 47 (d := d47) rfl).2 rfl
  have F : FnP K "_law_is_states" s__law_is_states (He.ga K "_law_is_states") fd := F
  exact ⟨fd, F, F.bindsN fun _ _ _ _ _ _ us hl => match us, hl with
    | [_, _], _ => rfl⟩
theorem F__law_is_states (t : Told WW h K c p) (G : h.Ns mainGlobals mg) : Fo PR w K mg base "_law_is_states" ["_law_value", "_law_some"] 2 sp_lstates := by
  obtain ⟨fd, F, b⟩ := E__law_is_states t
  exact ⟨⟨fd, ok_lstates F (tB t G) (F__law_is_index t G), b⟩, He.glo_ok t.in_ G (t.f 116 (f := .glo "_law_is_states") rfl), He.keep_ok (t.f 117 (f := .keep "_law_is_states") rfl)⟩
theorem E__law_ring_right (t : Told WW h K c p) : ∃ fd, (FnP K "_law_ring_right" s__law_ring_right (He.ga K "_law_ring_right") fd) ∧ Binds K fd ["_law_goals", "_law_signs", "_law_begin", "_law_text", "_law_states", "_law_some_primes"] [] := by
  obtain ⟨fd, F⟩ := DX.funD (t.d 49 (d := d49) rfl).1 (t.d 49 (d := d49) rfl).2 rfl
  have F : FnP K "_law_ring_right" s__law_ring_right (He.ga K "_law_ring_right") fd := F
  exact ⟨fd, F, F.bindsN fun _ _ _ _ _ _ us hl => match us, hl with
    | [_, _, _, _, _, _], _ => rfl⟩
theorem F__law_ring_right (t : Told WW h K c p) (G : h.Ns mainGlobals mg) : Fo PR w K mg base "_law_ring_right" ["_law_goals", "_law_signs", "_law_begin", "_law_text", "_law_states", "_law_some_primes"] 3 sp_lring := by
  obtain ⟨fd, F, b⟩ := E__law_ring_right t
  exact ⟨⟨fd, ok_lring F (tB t G) (F__law_reach t G) (F__law_is_over t G) (F__law_is_index t G) (F__law_is_states t G) (F__law_is_prime t G) (F__law_go t G), b⟩, He.glo_ok t.in_ G (t.f 120 (f := .glo "_law_ring_right") rfl), He.keep_ok (t.f 121 (f := .keep "_law_ring_right") rfl)⟩
theorem E__law_knot_right (t : Told WW h K c p) : ∃ fd, (FnP K "_law_knot_right" s__law_knot_right (He.ga K "_law_knot_right") fd) ∧ Binds K fd ["_law_goals", "_law_signs", "_law_begin", "_law_states", "_law_texts_z", "_law_products_z"] [] := by
  obtain ⟨fd, F⟩ := DX.funD (t.d 50 (d := d50) rfl).1 (t.d 50 (d := d50) rfl).2 rfl
  have F : FnP K "_law_knot_right" s__law_knot_right (He.ga K "_law_knot_right") fd := F
  exact ⟨fd, F, F.bindsN fun _ _ _ _ _ _ us hl => match us, hl with
    | [_, _, _, _, _, _], _ => rfl⟩
theorem F__law_knot_right (t : Told WW h K c p) (G : h.Ns mainGlobals mg) : Fo PR w K mg base "_law_knot_right" ["_law_goals", "_law_signs", "_law_begin", "_law_states", "_law_texts_z", "_law_products_z"] 4 sp_lknot := by
  obtain ⟨fd, F, b⟩ := E__law_knot_right t
  exact ⟨⟨fd, ok_lknot F (tB t G) (F__law_reach t G) (F__law_is_over t G) (F__law_is_states t G) (F__law_go t G) (F__law_places t G) (F__law_product_told t G), b⟩, He.glo_ok t.in_ G (t.f 122 (f := .glo "_law_knot_right") rfl), He.keep_ok (t.f 123 (f := .keep "_law_knot_right") rfl)⟩
theorem E__law_bag (t : Told WW h K c p) : ∃ fd, (FnP K "_law_bag" s__law_bag (He.ga K "_law_bag") fd) ∧ Binds K fd ["_law_script"] [] := by
  obtain ⟨fd, F⟩ := DX.funD (t.d 35 (d := d35) rfl).1 (t.d 35 (d := d35) rfl).2 rfl
  have F : FnP K "_law_bag" s__law_bag (He.ga K "_law_bag") fd := F
  exact ⟨fd, F, F.bindsN fun _ _ _ _ _ _ us hl => match us, hl with
    | [_], _ => rfl⟩
theorem F__law_bag (t : Told WW h K c p) (G : h.Ns mainGlobals mg) : Fo PR w K mg base "_law_bag" ["_law_script"] 1 (sp_lbag K) := by
  obtain ⟨fd, F, b⟩ := E__law_bag t
  exact ⟨⟨fd, ok_lbag F (tB t G), b⟩, He.glo_ok t.in_ G (t.f 92 (f := .glo "_law_bag") rfl), He.keep_ok (t.f 93 (f := .keep "_law_bag") rfl)⟩
theorem E__law_pull (t : Told WW h K c p) : ∃ fd, (FnP K "_law_pull" s__law_pull (He.ga K "_law_pull") fd) ∧ Binds K fd ["_law_bag_here", "_law_sides"] [] := by
  obtain ⟨fd, F⟩ := DX.funD (t.d 36 (d := d36) rfl).1 (t.d 36 (d := d36) rfl).2 rfl
  have F : FnP K "_law_pull" s__law_pull (He.ga K "_law_pull") fd := F
  exact ⟨fd, F, F.bindsN fun _ _ _ _ _ _ us hl => match us, hl with
    | [_, _], _ => rfl⟩
theorem F__law_pull (t : Told WW h K c p) (G : h.Ns mainGlobals mg) : Fo PR w K mg base "_law_pull" ["_law_bag_here", "_law_sides"] 1 sp_lpull := by
  obtain ⟨fd, F, b⟩ := E__law_pull t
  exact ⟨⟨fd, ok_lpull F (tB t G), b⟩, He.glo_ok t.in_ G (t.f 94 (f := .glo "_law_pull") rfl), He.keep_ok (t.f 95 (f := .keep "_law_pull") rfl)⟩
theorem E__law_of (t : Told WW h K c p) : ∃ fd, (FnP K "_law_of" s__law_of (He.ga K "_law_of") fd) ∧ Binds K fd ["_law_bag_here", "_law_some"] [] := by
  obtain ⟨fd, F⟩ := DX.funD (t.d 37 (d := d37) rfl).1 (t.d 37 (d := d37) rfl).2 rfl
  have F : FnP K "_law_of" s__law_of (He.ga K "_law_of") fd := F
  exact ⟨fd, F, F.bindsN fun _ _ _ _ _ _ us hl => match us, hl with
    | [_, _], _ => rfl⟩
theorem F__law_of (t : Told WW h K c p) (G : h.Ns mainGlobals mg) : Fo PR w K mg base "_law_of" ["_law_bag_here", "_law_some"] 2 sp_lof := by
  obtain ⟨fd, F, b⟩ := E__law_of t
  exact ⟨⟨fd, ok_lof F (tB t G) (F__law_pull t G), b⟩, He.glo_ok t.in_ G (t.f 96 (f := .glo "_law_of") rfl), He.keep_ok (t.f 97 (f := .keep "_law_of") rfl)⟩
theorem E__law_mixed (t : Told WW h K c p) : ∃ fd, (FnP K "_law_mixed" s__law_mixed (He.ga K "_law_mixed") fd) ∧ Binds K fd ["_law_bag_here", "_law_some"] [] := by
  obtain ⟨fd, F⟩ := DX.funD (t.d 53 (d := d53) rfl).1 (t.d 53 (d := d53) rfl).2 rfl
  have F : FnP K "_law_mixed" s__law_mixed (He.ga K "_law_mixed") fd := F
  exact ⟨fd, F, F.bindsN fun _ _ _ _ _ _ us hl => match us, hl with
    | [_, _], _ => rfl⟩
theorem F__law_mixed (t : Told WW h K c p) (G : h.Ns mainGlobals mg) : Fo PR w K mg base "_law_mixed" ["_law_bag_here", "_law_some"] 2 (sp_lmix K) := by
  obtain ⟨fd, F, b⟩ := E__law_mixed t
  exact ⟨⟨fd, ok_lmix F (tB t G) (F__law_pull t G), b⟩, He.glo_ok t.in_ G (t.f 128 (f := .glo "_law_mixed") rfl), He.keep_ok (t.f 129 (f := .keep "_law_mixed") rfl)⟩
theorem E__law_knotted (t : Told WW h K c p) : ∃ fd, (FnP K "_law_knotted" s__law_knotted (He.ga K "_law_knotted") fd) ∧ Binds K fd ["_law_bag_here"] [] := by
  obtain ⟨fd, F⟩ := DX.funD (t.d 54 (d := d54) rfl).1 (t.d 54 (d := d54) rfl).2 rfl
  have F : FnP K "_law_knotted" s__law_knotted (He.ga K "_law_knotted") fd := F
  exact ⟨fd, F, F.bindsN fun _ _ _ _ _ _ us hl => match us, hl with
    | [_], _ => rfl⟩
theorem F__law_knotted (t : Told WW h K c p) (G : h.Ns mainGlobals mg) : Fo PR w K mg base "_law_knotted" ["_law_bag_here"] 3 sp_lknotted := by
  obtain ⟨fd, F, b⟩ := E__law_knotted t
  exact ⟨⟨fd, ok_lknotted F (tB t G) (F__law_pull t G) (F__law_of t G) (F__law_mixed t G), b⟩, He.glo_ok t.in_ G (t.f 130 (f := .glo "_law_knotted") rfl), He.keep_ok (t.f 131 (f := .keep "_law_knotted") rfl)⟩
theorem E__law_renamed (t : Told WW h K c p) : ∃ fd, (FnP K "_law_renamed" s__law_renamed (He.ga K "_law_renamed") fd) ∧ Binds K fd ["_law_bag_here", "_law_goals", "_law_begin"] [] := by
  obtain ⟨fd, F⟩ := DX.funD (t.d 55 (d := d55) rfl).1 (t.d 55 (d := d55) rfl).2 rfl
  have F : FnP K "_law_renamed" s__law_renamed (He.ga K "_law_renamed") fd := F
  exact ⟨fd, F, F.bindsN fun _ _ _ _ _ _ us hl => match us, hl with
    | [_, _, _], _ => rfl⟩
theorem F__law_renamed (t : Told WW h K c p) (G : h.Ns mainGlobals mg) : Fo PR w K mg base "_law_renamed" ["_law_bag_here", "_law_goals", "_law_begin"] 3 sp_lren := by
  obtain ⟨fd, F, b⟩ := E__law_renamed t
  exact ⟨⟨fd, ok_lren F (tB t G) (F__law_pull t G) (F__law_mixed t G), b⟩, He.glo_ok t.in_ G (t.f 132 (f := .glo "_law_renamed") rfl), He.keep_ok (t.f 133 (f := .keep "_law_renamed") rfl)⟩
theorem E__law_primes (t : Told WW h K c p) : ∃ fd, (FnP K "_law_primes" s__law_primes (He.ga K "_law_primes") fd) ∧ Binds K fd ["_law_bag_here"] [] := by
  obtain ⟨fd, F⟩ := DX.funD (t.d 56 (d := d56) rfl).1 (t.d 56 (d := d56) rfl).2 rfl
  have F : FnP K "_law_primes" s__law_primes (He.ga K "_law_primes") fd := F
  exact ⟨fd, F, F.bindsN fun _ _ _ _ _ _ us hl => match us, hl with
    | [_], _ => rfl⟩
theorem F__law_primes (t : Told WW h K c p) (G : h.Ns mainGlobals mg) : Fo PR w K mg base "_law_primes" ["_law_bag_here"] 2 sp_lprimes := by
  obtain ⟨fd, F, b⟩ := E__law_primes t
  exact ⟨⟨fd, ok_lprimes F (tB t G) (F__law_pull t G), b⟩, He.glo_ok t.in_ G (t.f 134 (f := .glo "_law_primes") rfl), He.keep_ok (t.f 135 (f := .keep "_law_primes") rfl)⟩
theorem E__law_same (t : Told WW h K c p) : ∃ fd, (FnP K "_law_same" s__law_same (He.ga K "_law_same") fd) ∧ Binds K fd ["_law_found", "_law_due"] [] := by
  obtain ⟨fd, F⟩ := DX.funD (t.d 38 (d := d38) rfl).1 (t.d 38 (d := d38) rfl).2 rfl
  have F : FnP K "_law_same" s__law_same (He.ga K "_law_same") fd := F
  exact ⟨fd, F, F.bindsN fun _ _ _ _ _ _ us hl => match us, hl with
    | [_, _], _ => rfl⟩
theorem L_no (t : Told WW h K c p) (G : h.Ns mainGlobals mg) : Fo PR w K mg base "_law_same" ["_law_found", "_law_due"] 0 (fun _ _ _ _ => False) := by
  obtain ⟨fd, F, b⟩ := E__law_same t
  exact ⟨⟨fd, fn_no, b⟩, He.glo_ok t.in_ G (t.f 98 (f := .glo "_law_same") rfl), He.keep_ok (t.f 99 (f := .keep "_law_same") rfl)⟩
theorem L_same0 (t : Told WW h K c p) (G : h.Ns mainGlobals mg) : Fo PR w K mg base "_law_same" ["_law_found", "_law_due"] 1 sp_lsame0 := by
  obtain ⟨fd, F, b⟩ := E__law_same t
  exact ⟨⟨fd, ok_lsame0 F (tB t G) (L_no t G), b⟩, He.glo_ok t.in_ G (t.f 98 (f := .glo "_law_same") rfl), He.keep_ok (t.f 99 (f := .keep "_law_same") rfl)⟩
theorem F__law_same (t : Told WW h K c p) (G : h.Ns mainGlobals mg) : Fo PR w K mg base "_law_same" ["_law_found", "_law_due"] 2 sp_lsame1 := by
  obtain ⟨fd, F, b⟩ := E__law_same t
  exact ⟨⟨fd, ok_lsame1 F (tB t G) (L_same0 t G), b⟩, He.glo_ok t.in_ G (t.f 98 (f := .glo "_law_same") rfl), He.keep_ok (t.f 99 (f := .keep "_law_same") rfl)⟩
theorem E__law_build (t : Told WW h K c p) : ∃ fd, (FnP K "_law_build" s__law_build (He.ga K "_law_build") fd) ∧ Binds K fd ["_law_machine_z", "_law_some"] [] := by
  obtain ⟨fd, F⟩ := DX.funD (t.d 57 (d := d57) rfl).1 (t.d 57 (d := d57) rfl).2 rfl
  have F : FnP K "_law_build" s__law_build (He.ga K "_law_build") fd := F
  exact ⟨fd, F, F.bindsN fun _ _ _ _ _ _ us hl => match us, hl with
    | [_, _], _ => rfl⟩
theorem F__law_build (t : Told WW h K c p) (G : h.Ns mainGlobals mg) (TB : LamX.TabB base mg c p) : Fo PR w K mg base "_law_build" ["_law_machine_z", "_law_some"] 11 (sp_lbuild (CMx K) (CRx K) (CKx K) [(p, lamQ)]) := by
  obtain ⟨fd, F, b⟩ := E__law_build t
  exact ⟨⟨fd, ok_lbuild F (tB t G) (F_build t G TB), b⟩, He.glo_ok t.in_ G (t.f 136 (f := .glo "_law_build") rfl), He.keep_ok (t.f 137 (f := .keep "_law_build") rfl)⟩
theorem E__law_holds (t : Told WW h K c p) : ∃ fd, (FnP K "_law_holds" s__law_holds (He.ga K "_law_holds") fd) ∧ Binds K fd ["_law_answer", "_law_some"] [] := by
  obtain ⟨fd, F⟩ := DX.funD (t.d 58 (d := d58) rfl).1 (t.d 58 (d := d58) rfl).2 rfl
  have F : FnP K "_law_holds" s__law_holds (He.ga K "_law_holds") fd := F
  exact ⟨fd, F, F.bindsN fun _ _ _ _ _ _ us hl => match us, hl with
    | [_, _], _ => rfl⟩
theorem F__law_holds (t : Told WW h K c p) (G : h.Ns mainGlobals mg) : Fo PR w K mg base "_law_holds" ["_law_answer", "_law_some"] 9 (fun vs H Q E => sp_lholds (CKx K) (sp_kholds (CMx K) (CKx K)) vs H Q E ∨ sp_lholds (CRx K) (sp_rholds (CMx K) (CRx K)) vs H Q E) := by
  obtain ⟨fd, F, b⟩ := E__law_holds t
  exact ⟨⟨fd, fn_or (ok_lholds F (tB t G) (cK t).cls (H_K t G)) (ok_lholds F (tB t G) (cR t).cls (H_R t G)), b⟩, He.glo_ok t.in_ G (t.f 138 (f := .glo "_law_holds") rfl), He.keep_ok (t.f 139 (f := .keep "_law_holds") rfl)⟩
theorem E__law_ring_stands (t : Told WW h K c p) : ∃ fd, (FnP K "_law_ring_stands" s__law_ring_stands (He.ga K "_law_ring_stands") fd) ∧ Binds K fd ["_law_answer", "_law_goals", "_law_signs", "_law_begin", "_law_some"] [] := by
  obtain ⟨fd, F⟩ := DX.funD (t.d 59 (d := d59) rfl).1 (t.d 59 (d := d59) rfl).2 rfl
  have F : FnP K "_law_ring_stands" s__law_ring_stands (He.ga K "_law_ring_stands") fd := F
  exact ⟨fd, F, F.bindsN fun _ _ _ _ _ _ us hl => match us, hl with
    | [_, _, _, _, _], _ => rfl⟩
theorem F__law_ring_stands (t : Told WW h K c p) (G : h.Ns mainGlobals mg) : Fo PR w K mg base "_law_ring_stands" ["_law_answer", "_law_goals", "_law_signs", "_law_begin", "_law_some"] 4 (sp_lrstands (CRx K)) := by
  obtain ⟨fd, F, b⟩ := E__law_ring_stands t
  exact ⟨⟨fd, ok_lrstands F (tB t G) (cR t) (iR t) (gR t G) (kRR t) (F__law_ring_right t G), b⟩, He.glo_ok t.in_ G (t.f 140 (f := .glo "_law_ring_stands") rfl), He.keep_ok (t.f 141 (f := .keep "_law_ring_stands") rfl)⟩
theorem E__law_knot_stands (t : Told WW h K c p) : ∃ fd, (FnP K "_law_knot_stands" s__law_knot_stands (He.ga K "_law_knot_stands") fd) ∧ Binds K fd ["_law_answer", "_law_goals", "_law_signs", "_law_begin"] [] := by
  obtain ⟨fd, F⟩ := DX.funD (t.d 60 (d := d60) rfl).1 (t.d 60 (d := d60) rfl).2 rfl
  have F : FnP K "_law_knot_stands" s__law_knot_stands (He.ga K "_law_knot_stands") fd := F
  exact ⟨fd, F, F.bindsN fun _ _ _ _ _ _ us hl => match us, hl with
    | [_, _, _, _], _ => rfl⟩
theorem F__law_knot_stands (t : Told WW h K c p) (G : h.Ns mainGlobals mg) : Fo PR w K mg base "_law_knot_stands" ["_law_answer", "_law_goals", "_law_signs", "_law_begin"] 5 (sp_lkstands (CRx K) (CKx K)) := by
  obtain ⟨fd, F, b⟩ := E__law_knot_stands t
  exact ⟨⟨fd, ok_lkstands F (tB t G) (cR t) (cK t) (iR t) (iK t) (gK t G) (kKK t) (kRK t) (F__law_knot_right t G), b⟩, He.glo_ok t.in_ G (t.f 142 (f := .glo "_law_knot_stands") rfl), He.keep_ok (t.f 143 (f := .keep "_law_knot_stands") rfl)⟩
theorem the_law (t : Told WW h K c p) (G : h.Ns mainGlobals mg) : ∃ fd, (∀ (s : Shared) (u : Value), BindsTo s fd ⟨[u], []⟩ [("_law_script", u)]) ∧ ∀ base : Heap, LamX.TabB base mg c p → FnOk PR w K mg base CX0 12 (He.ga K "law") fd ["_law_script"] (sp_law K [(p, lamQ)]) := by
  obtain ⟨fd, F⟩ := DX.funD (t.d 61 (d := d61) rfl).1 (t.d 61 (d := d61) rfl).2 rfl
  have F : FnP K "law" s_law (He.ga K "law") fd := F
  have b := FunD.bindsA (ps := ["_law_script"]) F fun _ _ _ _ _ _ us hl => match us, hl with
    | [_], _ => rfl
  obtain ⟨fdr, FR, bR⟩ := E_Knot___repr__ t
  have mR := He.meth_ok (t.f 170 (f := .meth "Knot" "__repr__") rfl)
  exact ⟨fd, fun s u => b s [u] rfl, fun base TB => ok_law plain_law F (tB t G) (cR t) (cK t) (iR t) (iK t) (gK t G) (kKK t) (F__law_bag t G) (F__law_knotted t G) (F__law_pull t G) (F__law_renamed t G) (F_Machine t G) (F_build t G TB) (F_K_is_built t G) (F__law_knot_stands t G) (F__law_primes t G) (F__law_build t G TB) (F__law_ring_stands t G) (F__law_holds t G) (F__law_same t G) (F_K_told t G) mR.at_ (of_decide_eq_true (t.x 7 (f := tyF "Knot" "__repr__") rfl)) (ok_krepr FR (cK t) (F_K_told t G)) bR⟩
end
end Hx
/-! N6 -/
set_option maxHeartbeats 0
namespace Hx
open PySem PySem.W PySem.Calls PyProof.Rows L2 Kn
abbrev hk : PySem.W.Hook := hook want1 want2 rfl rfl
def ob (s : PySem.W.SharedT) : AlX × AlX := (ob1 s, ob2 s)
theorem ob_eq (s : PySem.W.SharedT) : ob s = hk.obs s.abs := Prod.ext (obsX_eq (HandSHeadRun.getT_eq s)) (obsX_eq (HandSHeadRun.getT_eq s))
theorem run (w : World) : HandSHeadRun.RunEq R qv hk ob 30000 names w := fun os => map3 (run1 w os) (run2 w os) (map2 (run3 w os) (run4 w os))
theorem law_at (w : World) (mg : Str → Option Value) (fa : Addr) (h : Heap) (Y : ∃ K c p, Told WW h K c p) (G : h.Ns mainGlobals mg) (hmg : mg ("law" : Str) = some (.ref fa)) : ∃ K : PySem.W.Frag, K.In h ∧ LamX.LawAtS PySem.Challenge.rw_onlyahead_k39_whole_answers_for_knotted w K CX0 12 63 "_law_script" mg fa h := by
  obtain ⟨K, c, p, t⟩ := Y
  obtain ⟨fd, hb, hF⟩ := the_law (w := w) t G
  have e : mg ("law" : Str) = some (.ref (He.ga K "law")) := He.glo_ok t.in_ G (t.f 148 (f := .glo "law") rfl)
  rw [hmg] at e
  cases e
  refine ⟨K, t.in_, fd, [(c, p)], sp_law K [(p, lamQ)], fun q hq => ?_, fun q hq => ?_, fun q hq => ?_, hb, fun H a ns hl hbits hT hS => ?_, fun base X' G' TB => hF base (TB _ List.mem_cons_self)⟩
  · rw [List.mem_singleton.mp hq]; exact t.tb
  · rw [List.mem_singleton.mp hq]; exact t.no
  · rw [List.mem_singleton.mp hq]; exact t.hd
  · refine ⟨a, ns, rfl, hS, hl, fun q hq => ?_, fun _ => rfl⟩
    rw [List.mem_singleton.mp hq]
    exact LamX.TabS.nil (hT _ List.mem_cons_self)
end Hx
open PySem PySem.W PySem.Calls PyProof.Rows
theorem PySem.Challenge.cw_onlyahead_k39_whole_answers_for_knotted_holds : PySem.Challenge.rw_onlyahead_k39_whole_answers_for_knotted.Holds := by
  w_on; o_law
  refine HandSHeadRun.head_any (r := OpenLaw.row PySem.Challenge.rw_onlyahead_k39_whole_answers_for_knotted) (q := Hx.qv) (H := Hx.hk) (ob := Hx.ob) (M := 30000) (loose := Hx.names) (d := HandSHeadRun.topDef (OpenLaw.row PySem.Challenge.rw_onlyahead_k39_whole_answers_for_knotted).prog 136) (kwd := []) Hx.ob_eq
    (by kernel_rfl) (fun s => by kernel_rfl) Hx.run (by kernel_rfl) (by kernel_rfl) (by kernel_rfl) (by rfl) (by first | assumption | decide +kernel) (by decide +kernel) ⟨rfl, rfl, rfl, rfl, rfl, by decide +kernel⟩ ?hw ?hc
  case hw => w_witness2
  case hc =>
    refine LamX.walk_ofTsE (l := PySem.Challenge.rw_onlyahead_k39_whole_answers_for_knotted) (n := 63) (k := 12) (x := "_law_script") (CX := fun _ => L2.CX0) rfl (by decide) (by kernel_rfl) ⟨rfl, by decide, by decide⟩ ?F (fun _ _ _ _ _ z => z)
    intro w mg fa h Y G hmg0
    have hmg : mg ("law" : PySem.Str) = some (.ref fa) := by
      have e : (HandSHeadRun.topDef (OpenLaw.row PySem.Challenge.rw_onlyahead_k39_whole_answers_for_knotted).prog 136).name = ("law" : PySem.Str) := by kernel_rfl
      rw [← e]
      exact hmg0
    exact Hx.law_at w mg fa h Y G hmg
